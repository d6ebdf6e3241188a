import PyProof.Rows.All
import Wide.All
import OpenK.AllK
import Wide.FinOn
import HandS.ForMost
import HandS.ForExc
import HandS.IsInst
import HandS.Flow
import HandS.Style
import HandS.Wide
import HandS.WideBits
import HandS.Defaults
import HandS.TupAny
import HandS.RaiseMore
import PyProof.ReprReads
import PyProof.Rows.Digits
import PySem.Challenge.RW_anywidth_k21_truths_of_values
import HandS.Nested
import HandS.TupMul
import PyProof.Rows.IntBool
import HandS.Small
import PyProof.RulesMatch
import HandS.More
set_option Elab.async false
set_option linter.all false
set_option autoImplicit false
set_option maxRecDepth 100000
set_option maxHeartbeats 4000000

/-! S1: logical values, logical memory, results; how they stand in the abstract heap. -/
namespace G
open PySem L2
/-- the tables of code objects, in which lambdas are found -/
class Tab where
  T : List NdefX.NTab
/-- neither a table nor a code object -/
def Plain : Option HO → Prop
  | some (.tbl _) => False
  | some (.ext _) => False
  | _ => True
theorem tabs_upd {T : List NdefX.NTab} {H : Hp} {p : Addr} {o : HO} (t : NdefX.TabsN T H) (h : Plain (H p)) : NdefX.TabsN T (upd H p o) := fun q hq => by
  obtain ⟨ps, h1, h2, h3⟩ := t q hq
  have np : ∀ {b u}, H b = some u → ¬ Plain (some u) → b ≠ p := fun {b u} e n z => by
    subst z; rw [e] at h; exact n h
  refine ⟨ps, by rw [upd_ne (np h1 id)]; exact h1, h2, fun pos cv hc => ?_⟩
  obtain ⟨c, e1, e2⟩ := h3 pos cv hc
  exact ⟨c, e1, by rw [upd_ne (np e2 (by unfold LamX.CodeO; exact id))]; exact e2⟩

inductive D where
  | non | bl (b : Bool) | int (i : Int) | str (s : Str) | tup (xs : List D) | loc (n : Nat) | obj (n : Nat)
instance : Inhabited D := ⟨.non⟩

inductive O where
  | lst (xs : List D) | rol (xs : List D) | dct (kvs : List (Key × D))
  /-- a dict with keys of any data; an instance (both stand open yet) -/
  | dtn (kvs : List (D × D)) | ins (c : Nat) (fs : List (Str × D))

abbrev Mem := List O
structure Exn where
  cls : Nat
  fs : List D

inductive Res (α : Type) where
  | ok (a : α) (M : Mem) | ex (e : Exn) (M : Mem) | no

@[simp] def Res.bind {α β : Type} (r : Res α) (f : α → Mem → Res β) : Res β := match r with
  | .ok a M => f a M
  | .ex e M => .ex e M
  | .no => .no

abbrev Env := List (Option D)
abbrev LE := Env → Mem → Res D
abbrev LT := Env → Mem → Res Bool
abbrev LA := Env → Mem → Res (List D)
inductive Fl where
  | nx | rt (d : D) | bk | ct | xc (e : Exn)
abbrev LS := Env → Mem → Res (Fl × Env)
abbrev LG := D → Env → Mem → Res Env

/-! ### how a logical value stands in the abstract heap -/
/-- where the places stand; true: a list -/
abbrev Plc := List (Addr × Bool)
section
variable (K : PySem.W.Frag) (μ : Plc) (H : Hp)
mutual
def Rv : D → V → Prop
  | .non, v => v = .non
  | .bl b, v => v = .bl b
  | .int i, v => v = .int i
  | .str s, v => v = .str s
  | .loc n, v => ∃ a, v = .ref a ∧ μ[n]? = some (a, true)
  | .obj n, v => ∃ a, v = .ref a ∧ μ[n]? = some (a, false)
  | .tup ds, v => ∃ a vs, v = .ref a ∧ SqT K H a vs ∧ Rvs ds vs
def Rvs : List D → List V → Prop
  | [], vs => vs = []
  | d :: ds, vs => ∃ v r, vs = v :: r ∧ Rv d v ∧ Rvs ds r
end
end

def Ext (μ μ' : Plc) : Prop := ∀ (n : Nat) (a : Addr × Bool), μ[n]? = some a → μ'[n]? = some a
theorem Ext.refl (μ : Plc) : Ext μ μ := fun _ _ h => h
theorem Ext.trans {a b c : Plc} (x : Ext a b) (y : Ext b c) : Ext a c := fun n v h => y n v (x n v h)
theorem Ext.push (μ : Plc) (p : Addr × Bool) : Ext μ (μ ++ [p]) := fun n a h => by
  rw [List.getElem?_append_left (List.getElem?_eq_some_iff.mp h).1]; exact h
/-- the tuples stay -/
def Tk (K : PySem.W.Frag) (H H' : Hp) : Prop := ∀ a xs, SqT K H a xs → SqT K H' a xs
theorem Tk.refl (K : PySem.W.Frag) (H : Hp) : Tk K H H := fun _ _ h => h
theorem Tk.trans {K : PySem.W.Frag} {a b c : Hp} (x : Tk K a b) (y : Tk K b c) : Tk K a c := fun n v h => y n v (x n v h)
theorem Tk.new {K : PySem.W.Frag} {H : Hp} {p : Addr} {o : HO} (h : H p = none) : Tk K H (upd H p o) := fun a xs q => by
  rcases q with (q | ⟨o, q⟩) | q
  · exact .inl (.inl (by rw [upd_ne (ne_of_none q h)]; exact q))
  · exact .inl (.inr ⟨o, by rw [upd_ne (ne_of_none q h)]; exact q⟩)
  · exact .inr q
theorem Tk.lst {K : PySem.W.Frag} {H : Hp} {p : Addr} {xs : List V} {o : HO} (h : H p = some (.lst xs)) : Tk K H (upd H p o) := fun a ys q => by
  rcases q with (q | ⟨o, q⟩) | q
  · exact .inl (.inl (by rw [upd_ne (ne_of q h (by intro z; cases z))]; exact q))
  · exact .inl (.inr ⟨o, by rw [upd_ne (ne_of q h (by intro z; cases z))]; exact q⟩)
  · exact .inr q
theorem Tk.dct {K : PySem.W.Frag} {H : Hp} {p : Addr} {xs : List (Key × V)} {o : HO} (h : H p = some (.dK xs)) : Tk K H (upd H p o) := fun a ys q => by
  rcases q with (q | ⟨o, q⟩) | q
  · exact .inl (.inl (by rw [upd_ne (ne_of q h (by intro z; cases z))]; exact q))
  · exact .inl (.inr ⟨o, by rw [upd_ne (ne_of q h (by intro z; cases z))]; exact q⟩)
  · exact .inr q

section
variable {K : PySem.W.Frag} {μ μ' : Plc} {H H' : Hp}
mutual
theorem Rv.mono (e : Ext μ μ') (t : Tk K H H') : ∀ (d : D) {v : V}, Rv K μ H d v → Rv K μ' H' d v
  | .non, _, h => by unfold Rv at h ⊢; exact h
  | .bl b, _, h => by unfold Rv at h ⊢; exact h
  | .int i, _, h => by unfold Rv at h ⊢; exact h
  | .str s, _, h => by unfold Rv at h ⊢; exact h
  | .loc n, _, h => by
    unfold Rv at h ⊢
    obtain ⟨a, h1, h2⟩ := h
    exact ⟨a, h1, e n _ h2⟩
  | .obj n, _, h => by
    unfold Rv at h ⊢
    obtain ⟨a, h1, h2⟩ := h
    exact ⟨a, h1, e n _ h2⟩
  | .tup ds, _, h => by
    unfold Rv at h ⊢
    obtain ⟨a, vs, h1, h2, h3⟩ := h
    exact ⟨a, vs, h1, t _ _ h2, Rvs.mono e t ds h3⟩
theorem Rvs.mono (e : Ext μ μ') (t : Tk K H H') : ∀ (ds : List D) {vs : List V}, Rvs K μ H ds vs → Rvs K μ' H' ds vs
  | [], _, h => by unfold Rvs at h ⊢; exact h
  | d :: ds, _, h => by
    unfold Rvs at h ⊢
    obtain ⟨v, r, h1, h2, h3⟩ := h
    exact ⟨v, r, h1, Rv.mono e t d h2, Rvs.mono e t ds h3⟩
end
theorem Rvs.length : ∀ {ds : List D} {vs : List V}, Rvs K μ H ds vs → vs.length = ds.length
  | [], _, h => by unfold Rvs at h; subst h; rfl
  | d :: ds, _, h => by
    unfold Rvs at h
    obtain ⟨v, r, h1, h2, h3⟩ := h
    subst h1
    rw [List.length_cons, List.length_cons, Rvs.length h3]
theorem rvs_nil : Rvs K μ H [] [] := by unfold Rvs; rfl
theorem rvs_cons {d : D} {ds : List D} {v : V} {vs : List V} (h : Rv K μ H d v) (t : Rvs K μ H ds vs) : Rvs K μ H (d :: ds) (v :: vs) := by
  unfold Rvs; exact ⟨v, vs, rfl, h, t⟩
theorem Rvs.get : ∀ {ds : List D} {vs : List V} {i : Nat} {d : D}, Rvs K μ H ds vs → ds[i]? = some d → ∃ v, vs[i]? = some v ∧ Rv K μ H d v
  | [], _, _, _, _, e => by simp at e
  | d :: ds, _, 0, _, h, e => by
    unfold Rvs at h
    obtain ⟨v, r, h1, h2, h3⟩ := h
    subst h1
    simp at e; subst e
    exact ⟨v, rfl, h2⟩
  | d :: ds, _, i + 1, _, h, e => by
    unfold Rvs at h
    obtain ⟨v, r, h1, h2, h3⟩ := h
    subst h1
    obtain ⟨w, q1, q2⟩ := Rvs.get (i := i) h3 (by simpa using e)
    exact ⟨w, by simpa using q1, q2⟩
theorem Rvs.get' : ∀ {ds : List D} {vs : List V} {i : Nat} {v : V}, Rvs K μ H ds vs → vs[i]? = some v → ∃ d, ds[i]? = some d ∧ Rv K μ H d v := fun {ds vs i v} h e => by
  have hi : i < ds.length := by rw [← h.length]; exact (List.getElem?_eq_some_iff.mp e).1
  obtain ⟨w, q1, q2⟩ := h.get (List.getElem?_eq_getElem hi)
  rw [e] at q1; cases q1
  exact ⟨_, List.getElem?_eq_getElem hi, q2⟩
theorem Rvs.append : ∀ {ds es : List D} {vs ws : List V}, Rvs K μ H ds vs → Rvs K μ H es ws → Rvs K μ H (ds ++ es) (vs ++ ws)
  | [], _, _, _, h, t => by unfold Rvs at h; subst h; exact t
  | d :: ds, _, _, _, h, t => by
    unfold Rvs at h
    obtain ⟨v, r, h1, h2, h3⟩ := h
    subst h1
    exact rvs_cons h2 (Rvs.append h3 t)
theorem Rvs.take : ∀ {ds : List D} {vs : List V} (n : Nat), Rvs K μ H ds vs → Rvs K μ H (ds.take n) (vs.take n)
  | _, _, 0, _ => by simp only [List.take_zero]; exact rvs_nil
  | [], _, n + 1, h => by unfold Rvs at h; subst h; exact rvs_nil
  | d :: ds, _, n + 1, h => by
    unfold Rvs at h
    obtain ⟨v, r, h1, h2, h3⟩ := h
    subst h1
    exact rvs_cons h2 (Rvs.take n h3)
theorem Rvs.drop : ∀ {ds : List D} {vs : List V} (n : Nat), Rvs K μ H ds vs → Rvs K μ H (ds.drop n) (vs.drop n)
  | _, _, 0, h => h
  | [], _, n + 1, h => by unfold Rvs at h; subst h; exact rvs_nil
  | d :: ds, _, n + 1, h => by
    unfold Rvs at h
    obtain ⟨v, r, h1, h2, h3⟩ := h
    subst h1
    exact Rvs.drop n h3
theorem Rvs.set {e : D} {w : V} (r : Rv K μ H e w) : ∀ {ds : List D} {vs : List V} (i : Nat), Rvs K μ H ds vs → Rvs K μ H (ds.set i e) (vs.set i w)
  | [], _, i, h => by unfold Rvs at h; subst h; exact rvs_nil
  | d :: ds, _, 0, h => by
    unfold Rvs at h
    obtain ⟨v, r', h1, h2, h3⟩ := h
    subst h1
    exact rvs_cons r h3
  | d :: ds, _, i + 1, h => by
    unfold Rvs at h
    obtain ⟨v, r', h1, h2, h3⟩ := h
    subst h1
    exact rvs_cons h2 (Rvs.set r i h3)
theorem Rvs.reverse : ∀ {ds : List D} {vs : List V}, Rvs K μ H ds vs → Rvs K μ H ds.reverse vs.reverse
  | [], _, h => by unfold Rvs at h; subst h; exact rvs_nil
  | d :: ds, _, h => by
    unfold Rvs at h
    obtain ⟨v, r, h1, h2, h3⟩ := h
    subst h1
    rw [List.reverse_cons, List.reverse_cons]
    exact (Rvs.reverse h3).append (rvs_cons h2 rvs_nil)
theorem Rvs.one {d : D} {vs : List V} (h : Rvs K μ H [d] vs) : ∃ v, vs = [v] ∧ Rv K μ H d v := by
  unfold Rvs at h
  obtain ⟨v, r, h1, h2, h3⟩ := h
  unfold Rvs at h3
  subst h3
  exact ⟨v, h1, h2⟩
theorem Rvs.uncons {d : D} {ds : List D} {vs : List V} (h : Rvs K μ H (d :: ds) vs) : ∃ v r, vs = v :: r ∧ Rv K μ H d v ∧ Rvs K μ H ds r := by
  unfold Rvs at h; exact h
theorem Rvs.nil {vs : List V} (h : Rvs K μ H [] vs) : vs = [] := by unfold Rvs at h; exact h
theorem Rvs.mapInt : ∀ {ns : List Int} {vs : List V}, Rvs K μ H (ns.map D.int) vs → vs = ns.map V.int
  | [], _, h => h.nil
  | n :: ns, _, h => by
    obtain ⟨v, r, rfl, h2, h3⟩ := Rvs.uncons h
    unfold Rv at h2
    rw [List.map_cons, Rvs.mapInt h3, h2]
theorem rvs_ints : ∀ (ns : List Int), Rvs K μ H (ns.map D.int) (ns.map V.int)
  | [] => rvs_nil
  | n :: ns => rvs_cons (by unfold Rv; rfl) (rvs_ints ns)

/-! values of one kind -/
theorem rv_non : Rv K μ H .non .non := by unfold Rv; rfl
theorem rv_bl (b : Bool) : Rv K μ H (.bl b) (.bl b) := by unfold Rv; rfl
theorem rv_int (i : Int) : Rv K μ H (.int i) (.int i) := by unfold Rv; rfl
theorem rv_str (s : Str) : Rv K μ H (.str s) (.str s) := by unfold Rv; rfl
theorem rv_tup {ds : List D} {a : Addr} {vs : List V} (h : SqT K H a vs) (r : Rvs K μ H ds vs) : Rv K μ H (.tup ds) (.ref a) := by unfold Rv; exact ⟨a, vs, rfl, h, r⟩
theorem rv_loc {n : Nat} {a : Addr} (h : μ[n]? = some (a, true)) : Rv K μ H (.loc n) (.ref a) := by unfold Rv; exact ⟨a, rfl, h⟩
theorem rv_obj {n : Nat} {a : Addr} (h : μ[n]? = some (a, false)) : Rv K μ H (.obj n) (.ref a) := by unfold Rv; exact ⟨a, rfl, h⟩
theorem Rv.non {v : V} (h : Rv K μ H .non v) : v = .non := by unfold Rv at h; exact h
theorem Rv.bl {b : Bool} {v : V} (h : Rv K μ H (.bl b) v) : v = .bl b := by unfold Rv at h; exact h
theorem Rv.int {i : Int} {v : V} (h : Rv K μ H (.int i) v) : v = .int i := by unfold Rv at h; exact h
theorem Rv.str {s : Str} {v : V} (h : Rv K μ H (.str s) v) : v = .str s := by unfold Rv at h; exact h
theorem Rv.tup {ds : List D} {v : V} (h : Rv K μ H (.tup ds) v) : ∃ a vs, v = .ref a ∧ SqT K H a vs ∧ Rvs K μ H ds vs := by unfold Rv at h; exact h
theorem Rv.loc {n : Nat} {v : V} (h : Rv K μ H (.loc n) v) : ∃ a, v = .ref a ∧ μ[n]? = some (a, true) := by unfold Rv at h; exact h
theorem Rv.obj {n : Nat} {v : V} (h : Rv K μ H (.obj n) v) : ∃ a, v = .ref a ∧ μ[n]? = some (a, false) := by unfold Rv at h; exact h
end

/-! ### the memory -/
section
variable (K : PySem.W.Frag) (μ : Plc) (H : Hp)
def Ro : O → Addr → Prop
  | .lst ds, a => ∃ vs, H a = some (.lst vs) ∧ Rvs K μ H ds vs
  | .rol ds, a => ∃ vs, ((∃ o, H a = some (.frz o (.lst vs))) ∨ ∃ (o : Obj) (its : Array Value) (n : Nat), K.lookup a = some o ∧ o.cls = .type "list" ∧ o.dict = none ∧ o.data = .seq its n ∧ its.size ≤ sizeLine ∧ Vals vs its.toList) ∧ Rvs K μ H ds vs
  | .dct kvs, a => ∃ ws : List (Key × V), H a = some (.dK ws) ∧ ws.map (·.1) = kvs.map (·.1) ∧ Rvs K μ H (kvs.map (·.2)) (ws.map (·.2))
  | .dtn _, _ => False
  | .ins _ _, _ => False
def O.mut : O → Bool
  | .rol _ => false
  | _ => true
def O.isL : O → Bool
  | .lst _ => true
  | .rol _ => true
  | _ => false
variable [tb : Tab] in
structure RM (M : Mem) : Prop where
  tab : NdefX.TabsN tb.T H
  len : μ.length = M.length
  inj : ∀ (i j : Nat) (a : Addr) (k l : Bool) (o u : O), μ[i]? = some (a, k) → μ[j]? = some (a, l) → M[i]? = some o → M[j]? = some u → o.mut = true → u.mut = true → i = j
  obj : ∀ (i : Nat) (a : Addr) (k : Bool) (o : O), μ[i]? = some (a, k) → M[i]? = some o → k = o.isL ∧ Ro K μ H o a
end
section
variable [Tab] {K : PySem.W.Frag} {μ μ' : Plc} {H H' : Hp} {M : Mem}
theorem RM.lst (r : RM K μ H M) {n : Nat} {a : Addr} {k : Bool} {ds : List D} (ha : μ[n]? = some (a, k)) (h : M[n]? = some (.lst ds)) : ∃ vs, H a = some (.lst vs) ∧ Rvs K μ H ds vs := (r.obj _ _ _ _ ha h).2
theorem RM.dct (r : RM K μ H M) {n : Nat} {a : Addr} {k : Bool} {kvs : List (Key × D)} (ha : μ[n]? = some (a, k)) (h : M[n]? = some (.dct kvs)) : ∃ ws : List (Key × V), H a = some (.dK ws) ∧ ws.map (·.1) = kvs.map (·.1) ∧ Rvs K μ H (kvs.map (·.2)) (ws.map (·.2)) := (r.obj _ _ _ _ ha h).2
/-- what may be read as a list -/
def O.items : O → List D
  | .lst ds => ds
  | .rol ds => ds
  | _ => []
theorem RM.sql (r : RM K μ H M) {n : Nat} {a : Addr} {o : O} (ha : μ[n]? = some (a, true)) (h : M[n]? = some o) : ∃ vs, SqL K H a vs ∧ Rvs K μ H o.items vs := by
  obtain ⟨k, q⟩ := r.obj _ _ _ _ ha h
  cases o with
  | lst ds =>
    obtain ⟨vs, h1, h2⟩ := q
    exact ⟨vs, SqL.of h1, h2⟩
  | rol ds =>
    obtain ⟨vs, h1, h2⟩ := q
    refine ⟨vs, ?_, h2⟩
    rcases h1 with ⟨o, h1⟩ | h1
    · exact .inl (.inr ⟨o, h1⟩)
    · exact .inr h1
  | dct kvs => cases k
  | dtn kvs => cases k
  | ins c fs => cases k
/-- an object whose place is not written stays as it was -/
theorem Ro.mono {o : O} {a : Addr} (e : Ext μ μ') (t : Tk K H H') (h : ∀ u, H a = some u → H' a = some u) (r : Ro K μ H o a) : Ro K μ' H' o a := by
  cases o with
  | lst ds =>
    obtain ⟨vs, h1, h2⟩ := r
    exact ⟨vs, h _ h1, h2.mono e t⟩
  | rol ds =>
    obtain ⟨vs, h1, h2⟩ := r
    refine ⟨vs, ?_, h2.mono e t⟩
    rcases h1 with ⟨o, h1⟩ | h1
    · exact .inl ⟨o, h _ h1⟩
    · exact .inr h1
  | dct kvs =>
    obtain ⟨ws, h1, h2, h3⟩ := r
    exact ⟨ws, h _ h1, h2, h3.mono e t⟩
  | dtn _ => exact r.elim
  | ins _ _ => exact r.elim
/-- what stands at a mutable object's place -/
theorem Ro.cell {o : O} {a : Addr} (r : Ro K μ H o a) (m : o.mut = true) : ∃ u, H a = some u ∧ (∀ ob x, u ≠ .frz ob x) ∧ Plain (some u) := by
  cases o with
  | lst ds => obtain ⟨vs, h1, _⟩ := r; exact ⟨_, h1, ⟨fun _ _ z => HO.noConfusion z, trivial⟩⟩
  | rol ds => cases m
  | dct kvs => obtain ⟨ws, h1, _⟩ := r; exact ⟨_, h1, ⟨fun _ _ z => HO.noConfusion z, trivial⟩⟩
  | dtn _ => exact r.elim
  | ins _ _ => exact r.elim
/-- a new object that is not of the memory -/
theorem RM.keep (r : RM K μ H M) {p : Addr} {o : HO} (h : H p = none) : RM K μ (upd H p o) M :=
  ⟨tabs_upd r.tab (by rw [h]; trivial), r.len, r.inj, fun i a k u ha hu => ⟨(r.obj i a k u ha hu).1, (r.obj i a k u ha hu).2.mono (Ext.refl _) (Tk.new h) fun w hw => by rw [upd_ne (ne_of_none hw h)]; exact hw⟩⟩
theorem get_push {α : Type} {l : List α} {x y : α} {i : Nat} (h : (l ++ [x])[i]? = some y) : l[i]? = some y ∨ (i = l.length ∧ y = x) := by
  by_cases hi : i < l.length
  · rw [List.getElem?_append_left hi] at h; exact .inl h
  · rw [List.getElem?_append_right (by omega)] at h
    have : i - l.length = 0 := by
      cases e : i - l.length with
      | zero => rfl
      | succ k => rw [e] at h; simp at h
    rw [this] at h
    simp at h
    exact .inr ⟨by omega, h.symm⟩
/-- a new object of the memory -/
theorem RM.pushO (r : RM K μ H M) {p : Addr} {o : O} {ho : HO} (h : H p = none) (ro : Ro K (μ ++ [(p, o.isL)]) (upd H p ho) o p) : RM K (μ ++ [(p, o.isL)]) (upd H p ho) (M ++ [o]) := by
  have hl : μ.length = M.length := r.len
  have bound : ∀ (i : Nat) (a : Addr × Bool), μ[i]? = some a → i < M.length := fun i a q => by rw [← hl]; exact (List.getElem?_eq_some_iff.mp q).1
  have bound' : ∀ (i : Nat) (o : O), M[i]? = some o → i < M.length := fun i o q => (List.getElem?_eq_some_iff.mp q).1
  have nop : ∀ (i : Nat) (k : Bool) (u : O), μ[i]? = some (p, k) → M[i]? = some u → u.mut = true → False := fun i k u q1 q2 m => by
    obtain ⟨_, z, _⟩ := (r.obj i p k u q1 q2).2.cell m
    rw [h] at z; cases z
  refine ⟨tabs_upd r.tab (by rw [h]; trivial), by rw [List.length_append, List.length_append, hl]; rfl, fun i j a k l x u h1 h2 h3 h4 mx mu => ?_, fun i a k u h1 h2 => ?_⟩
  · rcases get_push h1 with g1 | ⟨e1, f1⟩
    · rcases get_push h2 with g2 | ⟨e2, f2⟩
      · rcases get_push h3 with g3 | ⟨e3, _⟩
        · rcases get_push h4 with g4 | ⟨e4, _⟩
          · exact r.inj i j a k l x u g1 g2 g3 g4 mx mu
          · have := bound _ _ g2; omega
        · have := bound _ _ g1; omega
      · rcases get_push h3 with g3 | ⟨e3, _⟩
        · cases f2
          exact (nop _ _ _ g1 g3 mx).elim
        · have := bound _ _ g1; omega
    · rcases get_push h2 with g2 | ⟨e2, f2⟩
      · rcases get_push h4 with g4 | ⟨e4, _⟩
        · cases f1
          exact (nop _ _ _ g2 g4 mu).elim
        · have := bound _ _ g2; omega
      · omega
  · rcases get_push h1 with g1 | ⟨e1, f1⟩
    · rcases get_push h2 with g2 | ⟨e2, _⟩
      · exact ⟨(r.obj i a k u g1 g2).1, (r.obj i a k u g1 g2).2.mono (Ext.push μ _) (Tk.new h) fun w hw => by rw [upd_ne (ne_of_none hw h)]; exact hw⟩
      · have := bound _ _ g1; omega
    · rcases get_push h2 with g2 | ⟨_, f2⟩
      · have := bound' _ _ g2; omega
      · cases f1; rw [f2]; exact ⟨rfl, ro⟩
/-- a new list -/
theorem RM.push (r : RM K μ H M) {p : Addr} {ds : List D} {vs : List V} (h : H p = none) (rv : Rvs K μ H ds vs) : RM K (μ ++ [(p, true)]) (upd H p (.lst vs)) (M ++ [.lst ds]) :=
  r.pushO (o := .lst ds) h ⟨vs, upd_same, rv.mono (Ext.push μ _) (Tk.new h)⟩
/-- an object is written -/
theorem RM.setO (r : RM K μ H M) {n : Nat} {a : Addr} {k : Bool} {o0 o : O} {ho : HO} (ha : μ[n]? = some (a, k)) (hn : M[n]? = some o0) (m0 : o0.mut = true) (hk : o.isL = o0.isL) (t : Tk K H (upd H a ho)) (ro : Ro K μ (upd H a ho) o a) : RM K μ (upd H a ho) (M.set n o) := by
  have hnl : n < M.length := (List.getElem?_eq_some_iff.mp hn).1
  have cell := (r.obj n a k o0 ha hn).2.cell m0
  have back : ∀ (i : Nat) (x : O), (M.set n o)[i]? = some x → x.mut = true → ∃ y, M[i]? = some y ∧ y.mut = true := fun i x q mx => by
    by_cases e : i = n
    · exact ⟨o0, by rw [e]; exact hn, m0⟩
    · rw [List.getElem?_set_ne (Ne.symm e)] at q
      exact ⟨x, q, mx⟩
  refine ⟨tabs_upd r.tab (by obtain ⟨_, z, _, np⟩ := cell; rw [z]; exact np), by rw [List.length_set]; exact r.len, fun i j b k' l x y h1 h2 h3 h4 mx my => ?_, fun i b k' u h1 h2 => ?_⟩
  · obtain ⟨_, q3, m3⟩ := back _ _ h3 mx
    obtain ⟨_, q4, m4⟩ := back _ _ h4 my
    exact r.inj i j b k' l _ _ h1 h2 q3 q4 m3 m4
  · by_cases e : i = n
    · subst e
      rw [List.getElem?_set_self hnl] at h2
      cases h2
      rw [ha] at h1; cases h1
      exact ⟨by rw [hk]; exact (r.obj _ _ _ _ ha hn).1, ro⟩
    · rw [List.getElem?_set_ne (Ne.symm e)] at h2
      have q := r.obj i b k' u h1 h2
      refine ⟨q.1, ?_⟩
      by_cases nb : b = a
      · subst nb
        cases mu : u.mut with
        | true => exact absurd (r.inj _ _ _ _ _ _ _ h1 ha h2 hn mu m0) e
        | false =>
          cases u with
          | rol xs =>
            obtain ⟨zs, q1, q2⟩ := q.2
            refine ⟨zs, ?_, q2.mono (Ext.refl _) t⟩
            rcases q1 with ⟨o', q1⟩ | q1
            · exfalso
              obtain ⟨_, z, nz, _⟩ := cell
              rw [q1] at z; cases z
              exact nz _ _ rfl
            · exact .inr q1
          | lst _ => cases mu
          | dct _ => cases mu
          | dtn _ => cases mu
          | ins _ _ => cases mu
      · exact q.2.mono (Ext.refl _) t fun w hw => by rw [upd_ne nb]; exact hw
/-- a list is written -/
theorem RM.set (r : RM K μ H M) {n : Nat} {a : Addr} {k : Bool} {ds es : List D} {ws : List V} (ha : μ[n]? = some (a, k)) (hn : M[n]? = some (.lst ds)) (rv : Rvs K μ H es ws) : RM K μ (upd H a (.lst ws)) (M.set n (.lst es)) := by
  obtain ⟨vs, hv, _⟩ := r.lst ha hn
  have t : Tk K H (upd H a (.lst ws)) := Tk.lst hv
  exact r.setO ha hn rfl rfl t ⟨ws, upd_same, rv.mono (Ext.refl _) t⟩
end

/-! ### the names -/
def Rs (K : PySem.W.Frag) (μ : Plc) (H : Hp) (L : Env) (σ : St) : Prop := L.length = σ.length ∧ ∀ (i : Nat) (d : D), L[i]? = some (some d) → ∃ v, σ[i]? = some (some v) ∧ Rv K μ H d v
section
variable {K : PySem.W.Frag} {μ μ' : Plc} {H H' : Hp} {L : Env} {σ : St}
theorem Rs.mono (e : Ext μ μ') (t : Tk K H H') (r : Rs K μ H L σ) : Rs K μ' H' L σ := ⟨r.1, fun i d h => let ⟨v, h1, h2⟩ := r.2 i d h; ⟨v, h1, h2.mono e t⟩⟩
theorem Rs.set {d : D} {v : V} (r : Rs K μ H L σ) (rv : Rv K μ H d v) (i : Nat) : Rs K μ H (L.set i (some d)) (σ.set i (some v)) := by
  refine ⟨by rw [List.length_set, List.length_set]; exact r.1, fun j e h => ?_⟩
  by_cases q : j = i
  · subst q
    have hj : j < L.length := by
      have := (List.getElem?_eq_some_iff.mp h).1
      rwa [List.length_set] at this
    rw [List.getElem?_set_self hj] at h
    cases h
    exact ⟨v, List.getElem?_set_self (by rw [← r.1]; exact hj), rv⟩
  · rw [List.getElem?_set_ne (Ne.symm q)] at h ⊢
    exact r.2 j e h
end

/-! ### what a result asks of what follows -/
/-- an exception as it flies: its class at ce, its own dict -/
def RX (K : PySem.W.Frag) (ce : Nat → Addr × List Str) (μ : Plc) (H : Hp) (e : Exn) (cls : Value) (dd : Option Addr) : Prop :=
  cls = .ref (ce e.cls).1 ∧ ((e.fs = [] ∧ dd = none) ∨ ∃ d vs, dd = some d ∧ H d = some (.xd ((ce e.cls).2.zip vs)) ∧ Rvs K μ H e.fs vs ∧ vs.length = (ce e.cls).2.length)
/-- the written context -/
structure Gx where
  K : PySem.W.Frag
  ce : Nat → Addr × List Str
section
variable [Tab] (Γ : Gx) (E : XK)
def Pst {α β : Type} (R : Plc → Hp → α → β → Prop) (μ : Plc) (H : Hp) (r : Res α) (Q : β → Hp → Prop) : Prop := match r with
  | .ok a M' => ∀ μ' b H', Ext μ μ' → Tk Γ.K H H' → RM Γ.K μ' H' M' → R μ' H' a b → Q b H'
  | .ex e M' => ∀ μ' H' cls dd, Ext μ μ' → Tk Γ.K H H' → RM Γ.K μ' H' M' → RX Γ.K Γ.ce μ' H' e cls dd → E cls dd H'
  | .no => False
abbrev RvR : Plc → Hp → D → V → Prop := fun μ H d v => Rv Γ.K μ H d v
abbrev RvsR : Plc → Hp → List D → List V → Prop := fun μ H d v => Rvs Γ.K μ H d v
abbrev RbR : Plc → Hp → Bool → Bool → Prop := fun _ _ a b => a = b
abbrev RsR : Plc → Hp → Env → St → Prop := fun μ H L σ => Rs Γ.K μ H L σ
end
section
variable [Tab] {Γ : Gx} {E : XK} {α β γ δ : Type} {R : Plc → Hp → α → β → Prop} {R' : Plc → Hp → γ → δ → Prop} {μ : Plc} {H : Hp}
theorem Pst.shift {μ1 : Plc} {H1 : Hp} {r : Res α} {Q : β → Hp → Prop} (e : Ext μ μ1) (t : Tk Γ.K H H1) (h : Pst Γ E R μ H r Q) : Pst Γ E R μ1 H1 r Q := by
  cases r with
  | ok a M => exact fun μ' b H' e' t' m q => h μ' b H' (e.trans e') (t.trans t') m q
  | ex x M => exact fun μ' H' c d e' t' m q => h μ' H' c d (e.trans e') (t.trans t') m q
  | no => exact h
/-- one behind the other -/
theorem Pst.bind {r : Res α} {f : α → Mem → Res γ} {Q : δ → Hp → Prop} {Q' : β → Hp → Prop} (h : Pst Γ E R' μ H (r.bind f) Q)
    (k : ∀ a M1 μ1 b H1, r = .ok a M1 → Ext μ μ1 → Tk Γ.K H H1 → RM Γ.K μ1 H1 M1 → R μ1 H1 a b → Pst Γ E R' μ1 H1 (f a M1) Q → Q' b H1) : Pst Γ E R μ H r Q' := by
  cases r with
  | ok a M => exact fun μ' b H' e t m q => k a M μ' b H' rfl e t m q (h.shift e t)
  | ex x M => exact h
  | no => exact h
theorem Pst.mono {r : Res α} {Q Q' : β → Hp → Prop} (h : Pst Γ E R μ H r Q) (k : ∀ b H1, Q b H1 → Q' b H1) : Pst Γ E R μ H r Q' := by
  cases r with
  | ok a M => exact fun μ' b H' e t m q => k _ _ (h μ' b H' e t m q)
  | ex x M => exact h
  | no => exact h
end
end G

/-! T1: tuple * int, any factor. -/
namespace G
open PySem PySem.Spec PyProof.Rows L2
theorem tuple_mulE (l : Addr) (items : Array Value) (n : Nat) (dd : Option Addr) (sl : Array (Option Value)) (x : Int) (u : Tok) (c0 : (decide (x < -(2 ^ 63)) || decide (x ≥ 2 ^ 63)) = false) (c1 : (items.isEmpty || x == 1) = true) :
    Meets (Builtin.«tuple.__mul__» ⟨[.ref l, .int x u], []⟩) (fun _ R s => s.heap.get? l = some { cls := .type "tuple", dict := dd, data := .seq items n, slots := sl } ∧
      R (.ok (.ret (Value.ref l))) s) :=
  .of_wp fun prog w A R s h => by
    obtain ⟨hp, g, d, tk, os⟩ := s
    obtain ⟨hl, h⟩ := h
    have f1 := AutoSeq1.idx_int
    wp_walk using wpAny_loadPart' hl
    repeat (first
      | (refine wpAny_ite_false (decide_eq_false (by rw [c0]; exact Bool.false_ne_true)) ?_; wp_walk using wpAny_loadPart' hl)
      | (refine wpAny_ite_true (decide_eq_true c1) ?_; wp_walk using wpAny_loadPart' hl))
    exact ⟨_, rfl, h⟩
theorem tuple_mulN (l : Addr) (items : Array Value) (n : Nat) (dd : Option Addr) (sl : Array (Option Value)) (x : Int) (u : Tok) (c0 : (decide (x < -(2 ^ 63)) || decide (x ≥ 2 ^ 63)) = false) (c1 : (items.isEmpty || x == 1) = false) (c2 : (decide (x ≤ 0) || items.isEmpty) = true) :
    Meets (Builtin.«tuple.__mul__» ⟨[.ref l, .int x u], []⟩) (fun _ R s => s.heap.get? l = some { cls := .type "tuple", dict := dd, data := .seq items n, slots := sl } ∧
      R (.ok (.ret (Value.ref s.heap.objs.size))) { s with heap := s.heap.push { cls := Value.type "tuple", data := Data.seq #[] }, toks := s.toks }) :=
  .of_wp fun prog w A R s h => by
    obtain ⟨hp, g, d, tk, os⟩ := s
    obtain ⟨hl, h⟩ := h
    have f1 := AutoSeq1.idx_int
    wp_walk using wpAny_loadPart' hl
    repeat (first
      | (refine wpAny_ite_false (decide_eq_false (by rw [c0]; exact Bool.false_ne_true)) ?_; wp_walk using wpAny_loadPart' hl)
      | (refine wpAny_ite_false (decide_eq_false (by rw [c1]; exact Bool.false_ne_true)) ?_; wp_walk using wpAny_loadPart' hl)
      | (refine wpAny_ite_true (decide_eq_true c2) ?_; wp_walk using wpAny_loadPart' hl))
    exact ⟨_, rfl, h⟩
def rRep3 (K : PySem.W.Frag) : R2 := fun x y H Q => ∃ l k xs, x = .ref l ∧ y = .int k ∧ SqT K H l xs ∧ -1000000 ≤ k ∧ k ≤ 1000000 ∧
  if (xs.isEmpty || k == 1) = true then Q (.ref l) H else if k ≤ 0 then ∀ p, H p = none → Q (.ref p) (upd H p (.tup [])) else xs.length * k.toNat ≤ 16000000 ∧ ∀ p, H p = none → Q (.ref p) (upd H p (.tup (List.replicate k.toNat xs).flatten))
theorem op_rep3 {X : Cx} : OpR X (binaryOp .Mult) (rRep3 X.K) := by
  intro pins s σ H x y v u Q I rx ry h
  obtain ⟨l, k, xs, rfl, rfl, hT, h1, h2, q⟩ := h
  cases rx
  obtain ⟨t, rfl⟩ := ry
  obtain ⟨its, r, ⟨⟨cls, dd, data, sl⟩, ho, hc, n, hd⟩, hs⟩ := I.tuple hT
  simp only at hc hd
  subst hc hd
  have hle : its.length = xs.length := r.length.symm
  have hsz0 : its.toArray.size = xs.length := by rw [List.size_toArray, hle]
  have hie : its.toArray.isEmpty = xs.isEmpty := by
    cases its <;> cases xs <;> simp_all
  have c0 : (decide (k < -(2 ^ 63)) || decide (k ≥ 2 ^ 63)) = false := by
    rw [decide_eq_false (by omega), decide_eq_false (by omega)] <;> rfl
  refine wpAny_binaryOp_repeat_ref (T := "tuple") (U := "int") (by decide) ⟨_, ho, rfl⟩ (fun s' => typeIs_int s' k t) noFill_tuple_mul F.fills_int_mul F.slot_int_rmul repeat_tuple F.slot_int_index.lookup
    (call_meets F.slot_int_rmul (typeIs_int s k t) F.entry_int_rmul (F.args_int_rmul_2 _ _) (int_rmul_tuple k t l its.toArray n dd sl)
      ⟨ho, rfl, ⟨_, ho, rfl⟩, ?_⟩)
  by_cases c1 : (xs.isEmpty || k == 1) = true
  · rw [if_pos c1] at q
    exact call_meets F.slot_tuple_mul ⟨_, ho, rfl⟩ F.entry_tuple_mul (F.args_tuple_mul_2 _ _) (tuple_mulE l its.toArray n dd sl k t c0 (by rw [hie]; exact c1)) ⟨ho, ⟨.ref l, H, I, rfl, q⟩⟩
  · rw [if_neg c1] at q
    have c1' : (its.toArray.isEmpty || k == 1) = false := by rw [hie]; simpa using c1
    by_cases c2 : k ≤ 0
    · rw [if_pos c2] at q
      refine call_meets F.slot_tuple_mul ⟨_, ho, rfl⟩ F.entry_tuple_mul (F.args_tuple_mul_2 _ _) (tuple_mulN l its.toArray n dd sl k t c0 c1' (by rw [decide_eq_true c2]; rfl)) ⟨ho, ?_⟩
      refine ⟨.ref s.heap.objs.size, _, I.laid (t' := s.toks) (o := .tup []) (fun b ob q => Heap.get?_push_of_some _ q) (Nat.le_refl _) ?_, rfl, q _ (I.hok.fresh (Nat.le_refl _))⟩
      exact ⟨by rw [sizeLine_eq]; simp, [], .nil, IsTup.new _ _⟩
    · rw [if_neg c2] at q
      have hne : xs.isEmpty = false := by
        cases xs with
        | nil => exact absurd rfl c1
        | cons _ _ => rfl
      have c2' : (decide (k ≤ 0) || its.toArray.isEmpty) = false := by
        rw [hie, hne, Bool.or_false]; exact decide_eq_false c2
      have kk : ((k.toNat : Nat) : Int) = k := Int.toNat_of_nonneg (by omega)
      have hm : ((its.toArray.size : Nat) : Int) * k ≤ 16000000 := by
        rw [hsz0, ← kk, ← Int.natCast_mul]
        exact Int.ofNat_le.mpr q.1
      have flen : (List.replicate k.toNat its).flatten.length ≤ sizeLine := by
        rw [PyProof.Rows.lm_len_rep_flat, hle, sizeLine_eq]
        have := q.1
        rw [Nat.mul_comm] at this
        omega
      have c4 : Builtin.Tuple.tupleTooMany (((its.toArray.size : Nat) : Int) * k) = false := by
        unfold Builtin.Tuple.tupleTooMany
        rw [sizeLine_eq]
        exact decide_eq_false (by omega)
      refine call_meets F.slot_tuple_mul ⟨_, ho, rfl⟩ F.entry_tuple_mul (F.args_tuple_mul_2 _ _) (tuple_mulW l its.toArray n dd sl k t c0 c1' c2' (by omega) c4 (by rw [size_rep, List.size_toArray]; exact flen)) ⟨ho, ?_⟩
      rw [size_rep]
      refine ⟨.ref s.heap.objs.size, _, I.laid (t' := s.toks) (o := .tup (List.replicate k.toNat xs).flatten) (fun b ob q => Heap.get?_push_of_some _ q) (Nat.le_refl _) ?_, rfl, q.2 _ (I.hok.fresh (Nat.le_refl _))⟩
      exact ⟨by rw [PyProof.Rows.lm_len_rep_flat, sizeLine_eq]; have := q.1; rw [Nat.mul_comm] at this; omega, _, r.rep k.toNat, IsTup.new _ _⟩
end G

/-! T2: x[::-1] of a list or a tuple. -/
namespace G
open PySem PySem.Spec PyProof.Rows L2
section
variable {prog : Program} {w : World} {A : Around} {E : Value → Shared → Prop} {s : Shared}
theorem adjust_rev (n : Nat) : Builtin.Slice.sliceAdjust none none (-1) (n : Int) = ((n : Int) - 1, -1) := by
  unfold Builtin.Slice.sliceAdjust
  simp
theorem places_rev (n : Nat) : Builtin.Slice.slicePlaces ((n : Int) - 1) (-1) (-1) = n := by
  unfold Builtin.Slice.slicePlaces
  simp
  omega
theorem fm_congr {α β : Type} {f g : α → Option β} : ∀ {l : List α}, (∀ x ∈ l, f x = g x) → l.filterMap f = l.filterMap g
  | [], _ => rfl
  | a :: l, h => by
    rw [List.filterMap_cons, List.filterMap_cons, h a (by simp), fm_congr fun x hx => h x (List.mem_cons_of_mem _ hx)]
theorem pick_rev (xs : Array Value) : ((List.range xs.size).filterMap fun (m : Nat) => xs[(((xs.size : Int) - 1) + (m : Int) * -1).toNat]?).toArray = xs.toList.reverse.toArray := by
  have h := HT.pick_gen xs.toList.reverse.toArray 0 xs.size
  have e2 : ((xs.toList.reverse.toArray.toList.drop 0).take xs.size) = xs.toList.reverse := by
    rw [List.drop_zero]
    exact List.take_of_length_le (by simp)
  rw [e2] at h
  rw [← h]
  congr 1
  refine fm_congr fun m hm => ?_
  have hm := List.mem_range.mp hm
  have e3 : (((xs.size : Int) - 1) + (m : Int) * -1).toNat = xs.size - 1 - m := by omega
  have e4 : (((0 : Nat) : Int) + (m : Int) * 1).toNat = m := by omega
  rw [e3, e4]
  conv => rhs; rw [List.getElem?_toArray, List.getElem?_reverse (by simpa using hm)]
  simp
theorem sliceApplied_rev {sl : Addr} {vl vu vs : Value} {n : Nat} {Q : Int × Int × Nat → Shared → Prop} (hs : s.heap.IsSliceOf sl vl vu vs) (pl : IsPart vl none) (pu : IsPart vu none) (ps : IsPart vs (some (-1)))
    (h : Q ((n : Int) - 1, -1, n) s) : wpAny (model prog w) A (Builtin.Slice.sliceApplied (.ref sl) (pure (n : Int))) Q E s := by
  obtain ⟨os, hos, hcs, hds⟩ := id hs
  unfold Builtin.Slice.sliceApplied Builtin.Slice.sliceFields
  refine wpAny_bind (wpAny_bind (wpAny_field hos hds (x := vl) rfl (wpAny_bind (wpAny_field hos hds (x := vu) rfl (wpAny_bind (wpAny_field hos hds (x := vs) rfl (wpAny_pure ?_)))))))
  refine wpAny_bind (HT.slicePart_ ps ?_)
  show wpAny _ _ (if ((-1 : Int) == 0) = true then _ else _) _ _ s
  rw [if_neg (by decide)]
  refine wpAny_bind (HT.slicePart_ pl (wpAny_bind (HT.slicePart_ pu (wpAny_bind (wpAny_pure ?_)))))
  show wpAny _ _ (match Builtin.Slice.sliceAdjust none none (-1) (n : Int) with | (lo, hi) => pure (lo, (-1 : Int), Builtin.Slice.slicePlaces lo hi (-1))) _ _ s
  rw [adjust_rev n]
  show wpAny _ _ (pure ((n : Int) - 1, (-1 : Int), Builtin.Slice.slicePlaces ((n : Int) - 1) (-1) (-1))) _ _ s
  rw [places_rev]
  exact wpAny_pure h
theorem getItem_tuple_rev {t sl : Addr} {items : Array Value} {vl vu vs : Value} {Q : Value → Shared → Prop} (ht : IsTup s.heap t items) (hs : s.heap.IsSliceOf sl vl vu vs) (pl : IsPart vl none) (pu : IsPart vu none) (ps : IsPart vs (some (-1)))
    (h : Q (.ref s.heap.objs.size) { s with heap := s.heap.push { cls := .type "tuple", data := .seq items.toList.reverse.toArray } })
    (hsz : items.size ≤ sizeLine) : wpAny (model prog w) A (getItem (.ref t) (.ref sl)) Q E s := by
  have htake : sizeOk (.seq items.toList.reverse.toArray) := by
    show items.toList.reverse.toArray.size ≤ sizeLine
    rw [List.size_toArray, List.length_reverse, Array.length_toList]
    exact hsz
  obtain ⟨os, hos, hcs, hds⟩ := id hs
  have hTs : s.TypeIs (.ref sl) "slice" := ⟨os, hos, hcs⟩
  unfold getItem
  try with_reducible refine wpAny_holding ?_
  first | refine wpAny_bind (wpAny_pure ?_) | skip
  refine wpAny_bind (wpAny_sequenceKey ht.typeIs (by decide) ?_)
  refine wpAny_bind (wpAny_callSpecial?_slot (name := Str.ofString "__getitem__") ht.typeIs PyProof.Rows.slot_tuple_getitem
    (wpAny_call_entry PyProof.Rows.slot_tuple_getitem ht.typeIs entry_tuple_getitem ?_ (args_tuple_getitem _ _)))
  show wpAny _ _ (Builtin.Tuple.tupleItemsOf (.ref t) >>= _) _ _ s
  refine wpAny_bind (tupleItemsOf_ ht ?_)
  refine wpAny_bind (wpAny_typeOf hTs ?_)
  rw [if_pos (by decide)]
  refine wpAny_bind (sliceApplied_rev hs pl pu ps ?_)
  have hno : ¬ ((((items.size : Int) - 1) == 0 && (-1 : Int) == 1 && items.size == items.size) = true) := by
    intro q
    rw [Bool.and_eq_true, Bool.and_eq_true] at q
    exact absurd q.1.2 (by decide)
  show wpAny _ _ (if (((items.size : Int) - 1) == 0 && (-1 : Int) == 1 && items.size == items.size) = true then _ else _) _ _ s
  rw [if_neg hno, pick_rev]
  first
    | exact wpAny_bind (m := Builtin.Tuple.tupleExact _) (wpAny_newObj_type (wpAny_pure ⟨_, rfl, wpAny_pure h⟩) htake)
    | exact wpAny_bind (m := Builtin.Tuple.tupleExact _) (wpAny_newObj_type (wpAny_bind (wpAny_pure (wpAny_pure ⟨_, rfl, wpAny_pure h⟩))) htake)
    | exact wpAny_bind (wpAny_bind (m := Builtin.Tuple.tupleExact _) (wpAny_newObj_type (wpAny_pure (wpAny_pure ⟨_, rfl, wpAny_pure h⟩)) htake))
    | exact wpAny_bind (wpAny_bind (m := Builtin.Tuple.tupleExact _) (wpAny_newObj_type (wpAny_pure ⟨_, rfl, wpAny_pure h⟩) htake))
end
def tRevA (K : PySem.W.Frag) (te : TE) : TE := fun σ H Q => te σ H fun x H1 => ∃ a xs, x = .ref a ∧ ((SqL K H1 a xs ∧ ∀ p, H1 p = none → Q (.ref p) (upd H1 p (.lst xs.reverse))) ∨ (SqT K H1 a xs ∧ ∀ p, H1 p = none → Q (.ref p) (upd H1 p (.tup xs.reverse))))
theorem pe_revA {X : Cx} {e : Expr} {te : TE} {k : Nat} {p1 p2 p3 pos : Pos} (he : PE X e te) : PE X (.Subscript e (.Slice none none (some (.UnaryOp .USub (.Constant (.int 1) k p1) p2)) p3) pos) (tRevA X.K te) := by
  refine ⟨fun pins s σ H Q I h => ?_⟩
  refine Subscript_ (thn (he.run pins s σ H _ I h) fun v s1 ⟨x, H1, I1, r1, q1⟩ => ?_)
  obtain ⟨a, xs, ex, q⟩ := q1
  subst ex
  cases r1
  have hst : PO X (some (.UnaryOp .USub (.Constant (.int 1) k p1) p2)) (tPart (tUn (rU fun i => .int (-i)) (tC (.int 1)))) := po_some (pe_un un_neg pe_int)
  refine wpAny_Slice (thn (po_none.run pins s1 σ H1 (fun o H2 => o = none ∧ H2 = H1) I1 ⟨rfl, rfl⟩) fun vl s2 ⟨l, H2, I2, pl, el, e2⟩ => ?_)
  subst el e2
  refine thn (po_none.run pins s2 σ H2 (fun o H3 => o = none ∧ H3 = H2) I2 ⟨rfl, rfl⟩) fun vu s3 ⟨u, H3, I3, pu, eu, e3⟩ => ?_
  subst eu e3
  refine thn (hst.run pins s3 σ H3 (fun o H4 => o = some (-1) ∧ H4 = H3) I3 ⟨1, rfl, -1, rfl, rfl, rfl⟩) fun vs s4 ⟨o, H4, I4, ps, eo, e4⟩ => ?_
  subst eo e4
  have I5 : Inv X pins σ H4 { s4 with heap := s4.heap.push { cls := .type "slice", data := .fields #[vl, vu, vs] } } := I4.kept (t' := s4.toks) fun b ob q => Heap.get?_push_of_some _ q
  show wpAny (model X.prog X.w) X.A (subscriptTail e (.Slice none none (some (.UnaryOp .USub (.Constant (.int 1) k p1) p2)) p3) (.ref a) (.ref s4.heap.objs.size)) (EP X pins σ Q) X.xe { s4 with heap := s4.heap.push { cls := .type "slice", data := .fields #[vl, vu, vs] } }
  rcases q with ⟨hx, q⟩ | ⟨hx, q⟩
  · obtain ⟨its, r, ht, hz⟩ := I5.list hx
    have hlen := r.length
    refine tail_any (ops := [.ref a, .ref s4.heap.objs.size]) ht.isList.typeIs (PySem.slot_list_getitem.lookup) ?_ (by with_unfolding_all rfl)
    refine wpAny_getItem_list_slice ht.isList (Heap.IsSliceOf.new _ vl vu vs) pl pu ps (by decide) ?_ (by rw [List.size_toArray]; omega)
    rw [PySem.W.krv_pick]
    refine ⟨.ref _, _, I5.laid (t' := s4.toks) (o := .lst xs.reverse) (fun b ob q => Heap.get?_push_of_some _ q) (Nat.le_refl _) ?_, rfl, q _ (I5.hok.fresh (Nat.le_refl _))⟩
    exact ⟨by rw [List.length_reverse]; exact hz, _, 0, r.reverse, Heap.get?_push_size _ rfl⟩
  · obtain ⟨its, r, ht, hz⟩ := I5.tuple hx
    have hlen := r.length
    refine tail_any (ops := [.ref a, .ref s4.heap.objs.size]) ht.typeIs (PyProof.Rows.slot_tuple_getitem.lookup) ?_ (by with_unfolding_all rfl)
    refine getItem_tuple_rev ht (Heap.IsSliceOf.new _ vl vu vs) pl pu ps ?_ (by rw [List.size_toArray]; omega)
    refine ⟨.ref _, _, I5.laid (t' := s4.toks) (o := .tup xs.reverse) (fun b ob q => Heap.get?_push_of_some _ q) (Nat.le_refl _) ?_, rfl, q _ (I5.hok.fresh (Nat.le_refl _))⟩
    exact ⟨by rw [List.length_reverse]; exact hz, _, r.reverse, IsTup.new _ _⟩
end G

/-! S2: expressions, tests, arguments: each construct is simulated by a combinator. -/
namespace G
open PySem L2

theorem pe_imp {X : Cx} {e : Expr} {t t' : TE} (h : PE X e t) (k : ∀ σ H Q, t' σ H Q → t σ H Q) : PE X e t' := ⟨fun pins s σ H Q I q => h.run pins s σ H Q I (k σ H Q q)⟩
theorem pt_imp {X : Cx} {e : Expr} {t t' : TT} (h : PT X e t) (k : ∀ σ H Q, t' σ H Q → t σ H Q) : PT X e t' := ⟨fun pins s σ H Q I q => h.run pins s σ H Q I (k σ H Q q)⟩
theorem pw_imp {X : Cx} {e : Expr} {t t' : TT} (h : PW X e t) (k : ∀ σ H Q, t' σ H Q → t σ H Q) : PW X e t' := ⟨fun wh pins s σ H Q I q => h.run wh pins s σ H Q I (k σ H Q q)⟩
theorem pa_imp {X : Cx} {e : List Expr} {t t' : TA} (h : PA X e t) (k : ∀ σ H Q, t' σ H Q → t σ H Q) : PA X e t' := ⟨fun pos pins s σ H Q I q => h.run pos pins s σ H Q I (k σ H Q q)⟩
theorem ps_imp {X : Cx} {e : Stmt} {t t' : TS} (h : PS X e t) (k : ∀ D σ H, t' D σ H → t D σ H) : PS X e t' := ⟨fun pins s σ H D I q => h.run pins s σ H D I (k D σ H q)⟩
theorem pss_imp {X : Cx} {e : List Stmt} {t t' : TS} (h : PSs X e t) (k : ∀ D σ H, t' D σ H → t D σ H) : PSs X e t' := ⟨fun pins s σ H D I q => h.run pins s σ H D I (k D σ H q)⟩

section
/-- what is wished for an exception, by the names' values where it is raised -/
abbrev WS := L2.St → XK
abbrev ET : XK := fun _ _ _ => True
variable [Tab] (Γ : Gx) (W : WS)
def tG (m : LE) : TE := fun σ H Q => ∃ μ L M, Rs Γ.K μ H L σ ∧ RM Γ.K μ H M ∧ Pst Γ (W σ) (RvR Γ) μ H (m L M) Q
def tGT (m : LT) : TT := fun σ H Q => ∃ μ L M, Rs Γ.K μ H L σ ∧ RM Γ.K μ H M ∧ Pst Γ (W σ) RbR μ H (m L M) Q
def tGA (m : LA) : TA := fun σ H Q => ∃ μ L M, Rs Γ.K μ H L σ ∧ RM Γ.K μ H M ∧ Pst Γ (W σ) (RvsR Γ) μ H (m L M) Q
def rG (f : D → D → Mem → Res D) : R2 := fun v w H Q => ∃ μ M x y, RM Γ.K μ H M ∧ Rv Γ.K μ H x v ∧ Rv Γ.K μ H y w ∧ Pst Γ ET (RvR Γ) μ H (f x y M) Q
def rG1 (f : D → Mem → Res D) : V → Hp → VK → Prop := fun v H Q => ∃ μ M x, RM Γ.K μ H M ∧ Rv Γ.K μ H x v ∧ Pst Γ ET (RvR Γ) μ H (f x M) Q
def rGs (f : List D → Mem → Res D) : List V → Hp → VK → Prop := fun vs H Q => ∃ μ M xs, RM Γ.K μ H M ∧ Rvs Γ.K μ H xs vs ∧ Pst Γ ET (RvR Γ) μ H (f xs M) Q
def rGm (f : D → List D → Mem → Res D) : V → List V → Hp → VK → Prop := fun v vs H Q => ∃ μ M x xs, RM Γ.K μ H M ∧ Rv Γ.K μ H x v ∧ Rvs Γ.K μ H xs vs ∧ Pst Γ ET (RvR Γ) μ H (f x xs M) Q
theorem Pst.loose {Γ : Gx} {E : XK} {α β : Type} {R : Plc → Hp → α → β → Prop} {μ : Plc} {H : Hp} {r : Res α} {Q : β → Hp → Prop} (h : Pst Γ E R μ H r Q) : Pst Γ ET R μ H r Q := by
  cases r with
  | ok a M => exact h
  | ex e M => exact fun _ _ _ _ _ _ _ _ => trivial
  | no => exact h
end

/-! ### the combinators -/
def eV (i : Nat) : LE := fun L M => match L[i]? with
  | some (some d) => .ok d M
  | _ => .no
def eC (d : D) : LE := fun _ M => .ok d M
def eB (f : D → D → Mem → Res D) (a b : LE) : LE := fun L M => (a L M).bind fun x M1 => (b L M1).bind fun y M2 => f x y M2
def eU (f : D → Mem → Res D) (a : LE) : LE := fun L M => (a L M).bind fun x M1 => f x M1
def eF (f : List D → Mem → Res D) (a : LA) : LE := fun L M => (a L M).bind fun xs M1 => f xs M1
def eM (f : D → List D → Mem → Res D) (o : LE) (a : LA) : LE := fun L M => (o L M).bind fun x M1 => (a L M1).bind fun xs M2 => f x xs M2
def eIf (c : LT) (a b : LE) : LE := fun L M => (c L M).bind fun k M1 => if k = true then a L M1 else b L M1
def eTup (a : LA) : LE := fun L M => (a L M).bind fun xs M1 => if xs.length ≤ 1000 then .ok (.tup xs) M1 else .no
def eLst (a : LA) : LE := fun L M => (a L M).bind fun xs M1 => if xs.length ≤ 1000 then .ok (.loc M1.length) (M1 ++ [.lst xs]) else .no
def aN : LA := fun _ M => .ok [] M
def aC (e : LE) (r : LA) : LA := fun L M => (e L M).bind fun x M1 => (r L M1).bind fun xs M2 => .ok (x :: xs) M2
/-- the truth of a value -/
def truD (x : D) (M : Mem) : Res Bool := match x with
  | .non => .ok false M
  | .bl b => .ok b M
  | .int i => .ok (i != 0) M
  | .str s => if s.length ≤ 16000000 then .ok ((s.length : Int) != 0) M else .no
  | .tup ds => .ok (!ds.isEmpty) M
  | .loc n => match M[n]? with
    | some o => .ok (!o.items.isEmpty) M
    | none => .no
  | .obj _ => .no
def asB (x : D) (M : Mem) : Res Bool := match x with
  | .bl b => .ok b M
  | _ => .no
def tV (a : LE) : LT := fun L M => (a L M).bind truD
def tCm (f : D → D → Mem → Res D) (a b : LE) : LT := fun L M => (a L M).bind fun x M1 => (b L M1).bind fun y M2 => (f x y M2).bind asB
def tA (a b : LT) : LT := fun L M => (a L M).bind fun k M1 => if k = true then b L M1 else .ok false M1
def tO (a b : LT) : LT := fun L M => (a L M).bind fun k M1 => if k = true then .ok true M1 else b L M1
def tN (a : LT) : LT := fun L M => (a L M).bind fun k M1 => .ok (!k) M1
/-- a < b < c -/
def eCh (f g : D → D → Mem → Res D) (a b c : LE) : LE := fun L M => (a L M).bind fun x M1 => (b L M1).bind fun y M2 => (f x y M2).bind fun z M3 => (asB z M3).bind fun k M4 =>
  if k = true then (c L M4).bind fun w M5 => g y w M5 else .ok (.bl false) M4
/-- and, or of values; not -/
def eAnd (a b : LE) : LE := fun L M => (a L M).bind fun x M1 => (truD x M1).bind fun k M2 => if k = true then b L M2 else .ok x M2
def eOr (a b : LE) : LE := fun L M => (a L M).bind fun x M1 => (truD x M1).bind fun k M2 => if k = true then .ok x M2 else b L M2
def eNot (a : LE) : LE := fun L M => (a L M).bind fun x M1 => (truD x M1).bind fun k M2 => .ok (.bl (!k)) M2

section
variable [Tab] {Γ : Gx} {E : XK} {μ : Plc} {H : Hp} {M : Mem}
theorem Pst.here {α β : Type} {R : Plc → Hp → α → β → Prop} {a : α} {b : β} {Q : β → Hp → Prop} (h : Pst Γ E R μ H (.ok a M) Q) (m : RM Γ.K μ H M) (r : R μ H a b) : Q b H := h μ b H (Ext.refl _) (Tk.refl _ _) m r
theorem Pst.newT {ds : List D} {vs : List V} {p : Addr} {Q : VK} (h : Pst Γ E (RvR Γ) μ H (.ok (.tup ds) M) Q) (m : RM Γ.K μ H M) (r : Rvs Γ.K μ H ds vs) (hp : H p = none) : Q (.ref p) (upd H p (.tup vs)) :=
  h μ _ _ (Ext.refl _) (Tk.new hp) (m.keep hp) (rv_tup (SqT.of upd_same) (r.mono (Ext.refl _) (Tk.new hp)))
theorem Pst.newL {ds : List D} {vs : List V} {p : Addr} {Q : VK} (h : Pst Γ E (RvR Γ) μ H (.ok (.loc M.length) (M ++ [.lst ds])) Q) (m : RM Γ.K μ H M) (r : Rvs Γ.K μ H ds vs) (hp : H p = none) : Q (.ref p) (upd H p (.lst vs)) :=
  h (μ ++ [(p, true)]) _ _ (Ext.push _ _) (Tk.new hp) (m.push hp r) (rv_loc (by rw [← m.len, List.getElem?_append_right (Nat.le_refl _), Nat.sub_self]; rfl))
theorem Pst.set {α β : Type} {R : Plc → Hp → α → β → Prop} {x : α} {y : β} {n : Nat} {a : Addr} {k : Bool} {ds es : List D} {ws : List V} {Q : β → Hp → Prop} (h : Pst Γ E R μ H (.ok x (M.set n (.lst es))) Q) (m : RM Γ.K μ H M) (ha : μ[n]? = some (a, k)) (hn : M[n]? = some (.lst ds)) (rv : Rvs Γ.K μ H es ws) (r : R μ (upd H a (.lst ws)) x y) : Q y (upd H a (.lst ws)) := by
  obtain ⟨vs, hv, _⟩ := m.lst ha hn
  exact h μ _ _ (Ext.refl _) (Tk.lst hv) (m.set ha hn rv) r
end

section
variable [Tab] {X : Cx} {Γ : Gx} {W : WS} {E : XK} {a b c e : Expr} {es : List Expr} {ma mb mc : LE} {pos : Pos}
theorem step_B {f : D → D → Mem → Res D} {σ : L2.St} {H : Hp} {Q : VK} (h : tG Γ W (eB f ma mb) σ H Q) : tOp (rG Γ f) (tG Γ W ma) (tG Γ W mb) σ H Q := by
  obtain ⟨μ, L, M, hs, hm, hp⟩ := h
  refine ⟨μ, L, M, hs, hm, hp.bind fun x M1 μ1 v H1 _ e1 t1 m1 r1 hp1 => ?_⟩
  refine ⟨μ1, L, M1, hs.mono e1 t1, m1, hp1.bind fun y M2 μ2 w H2 _ e2 t2 m2 r2 hp2 => ?_⟩
  exact ⟨μ2, M2, x, y, m2, r1.mono e2 t2, r2, hp2.loose⟩
theorem pm_op {op : Operator} {f : D → D → Mem → Res D} (ho : OpR X (binaryOp op) (rG Γ f)) (ha : PE X a (tG Γ W ma)) (hb : PE X b (tG Γ W mb)) : PE X (.BinOp a op b pos) (tG Γ W (eB f ma mb)) :=
  pe_imp (pe_op ho ha hb) fun _ _ _ h => step_B h
theorem pm_cmp {op : CmpOp} {f : D → D → Mem → Res D} (ho : OpR X (compareOp op) (rG Γ f)) (ha : PE X a (tG Γ W ma)) (hb : PE X b (tG Γ W mb)) (hm : behindInMarks op b = false) : PE X (.Compare a [op] [b] pos) (tG Γ W (eB f ma mb)) :=
  pe_imp (pe_cmpR ho ha hb hm) fun _ _ _ h => step_B h
theorem pm_ix {f : D → D → Mem → Res D} (ho : IxR X (rG Γ f)) (ha : PE X a (tG Γ W ma)) (hb : PE X b (tG Γ W mb)) (hs : PlainIx b) : PE X (.Subscript a b pos) (tG Γ W (eB f ma mb)) :=
  pe_imp (pe_ix ho ha hb hs) fun _ _ _ h => step_B h
theorem pm_un {op : UnaryOp} {f : D → Mem → Res D} (ho : UnR X (unaryOp op) (rG1 Γ f)) (ha : PE X a (tG Γ W ma)) : PE X (.UnaryOp op a pos) (tG Γ W (eU f ma)) :=
  pe_imp (pe_un ho ha) fun _ _ _ h => by
    obtain ⟨μ, L, M, hs, hm, hp⟩ := h
    refine ⟨μ, L, M, hs, hm, hp.bind fun x M1 μ1 v H1 _ e1 t1 m1 r1 hp1 => ?_⟩
    exact ⟨μ1, M1, x, m1, r1, hp1.loose⟩
theorem pt_cm {op : CmpOp} {f : D → D → Mem → Res D} (ho : OpR X (compareOp op) (rG Γ f)) (ha : PE X a (tG Γ W ma)) (hb : PE X b (tG Γ W mb)) (hm : behindInMarks op b = false) : PT X (.Compare a [op] [b] pos) (tGT Γ W (tCm f ma mb)) :=
  pt_imp (pt_cmpR ho ha hb hm) fun _ _ _ h => by
    obtain ⟨μ, L, M, hs, hm, hp⟩ := h
    refine ⟨μ, L, M, hs, hm, hp.bind fun x M1 μ1 v H1 _ e1 t1 m1 r1 hp1 => ?_⟩
    refine ⟨μ1, L, M1, hs.mono e1 t1, m1, hp1.bind fun y M2 μ2 w H2 _ e2 t2 m2 r2 hp2 => ?_⟩
    refine ⟨μ2, M2, x, y, m2, r1.mono e2 t2, r2, (hp2.bind (R := RvR Γ) fun z M3 μ3 u H3 _ e3 t3 m3 r3 hp3 => ?_).loose⟩
    cases z with
    | bl k => exact ⟨k, r3.bl, hp3.here m3 rfl⟩
    | _ => exact hp3.elim
theorem tru_sim {μ : Plc} {H : Hp} {M : Mem} {x : D} {v : V} (m : RM Γ.K μ H M) (r : Rv Γ.K μ H x v) (hn : truD x M ≠ .no) : ∃ k, truD x M = .ok k M ∧ TruV Γ.K v H k := by
  cases x with
  | non => obtain rfl := r.non; exact ⟨false, rfl, rfl⟩
  | bl k => obtain rfl := r.bl; exact ⟨k, rfl, rfl⟩
  | int i => obtain rfl := r.int; exact ⟨_, rfl, rfl⟩
  | str s =>
    obtain rfl := r.str
    unfold truD at hn ⊢
    by_cases q : s.length ≤ 16000000
    · simp only [q, if_true] at hn ⊢
      exact ⟨_, rfl, Nat.le_trans q (by decide), rfl⟩
    · simp only [q, if_false] at hn
      exact absurd rfl hn
  | tup ds =>
    obtain ⟨p, vs, rfl, h1, h2⟩ := r.tup
    refine ⟨!ds.isEmpty, rfl, .inr (.inl ⟨vs, h1, ?_⟩)⟩
    have hl := h2.length
    cases ds <;> cases vs <;> first | rfl | simp at hl
  | obj n => exact absurd rfl hn
  | loc n =>
    obtain ⟨p, rfl, h1⟩ := r.loc
    unfold truD at hn ⊢
    cases q : M[n]? with
    | none => simp only [q] at hn; exact absurd rfl hn
    | some o =>
      simp only [q]
      obtain ⟨vs, h2, h3⟩ := m.sql h1 q
      refine ⟨!o.items.isEmpty, rfl, .inl ⟨vs, h2, ?_⟩⟩
      have hl := h3.length
      cases hi : o.items <;> cases vs <;> first | rfl | (rw [hi] at hl; simp at hl)
/-- a value's truth, then what follows -/
theorem tru_bind {μ : Plc} {H : Hp} {M : Mem} {x : D} {v : V} {α β : Type} {R : Plc → Hp → α → β → Prop} {f : Bool → Mem → Res α} {Q : β → Hp → Prop} (m : RM Γ.K μ H M) (r : Rv Γ.K μ H x v)
    (h : Pst Γ E R μ H ((truD x M).bind f) Q) : ∃ k, TruV Γ.K v H k ∧ Pst Γ E R μ H (f k M) Q := by
  cases q : truD x M with
  | no => rw [q] at h; exact h.elim
  | ex e M' =>
    have hn : truD x M ≠ .no := by rw [q]; intro z; cases z
    obtain ⟨k, e, _⟩ := tru_sim m r hn
    rw [q] at e; cases e
  | ok k M' =>
    have hn : truD x M ≠ .no := by rw [q]; intro z; cases z
    obtain ⟨k', e, t⟩ := tru_sim m r hn
    rw [e] at h
    exact ⟨k', t, h⟩
theorem pt_tru (ha : PE X a (tG Γ W ma)) (hK : X.K = Γ.K := by rfl) (he : ∀ whole, isTrue a X.env whole = (do let v ← whole; standAt a.pos; holding [v] (truthy v)) := by intro _; rfl) : PT X a (tGT Γ W (tV ma)) :=
  pt_imp (pt_truth ha he) fun σ _ Q h => by
    obtain ⟨μ, L, M, hs, hm, hp⟩ := h
    refine ⟨μ, L, M, hs, hm, hp.bind fun x M1 μ1 v H1 _ e1 t1 m1 r1 hp1 => ?_⟩
    rw [hK]
    have hp2 : Pst Γ (W σ) RbR μ1 H1 ((truD x M1).bind fun k M => .ok k M) Q := by
      cases q : truD x M1 <;> (rw [q] at hp1; exact hp1)
    obtain ⟨k, t, hp3⟩ := tru_bind m1 r1 hp2
    exact ⟨k, t, hp3.here m1 rfl⟩
theorem pwm_and1 {t : LT} (ha : PT X a (tGT Γ W t)) : PW X (.BoolOp .And [a] pos) (tGT Γ W t) := pw_and1 ha
theorem pwm_or1 {t : LT} (ha : PT X a (tGT Γ W t)) : PW X (.BoolOp .Or [a] pos) (tGT Γ W t) := pw_or1 ha
theorem pwm_and {t u : LT} (ha : PT X a (tGT Γ W t)) (hb : PW X (.BoolOp .And (b :: es) pos) (tGT Γ W u)) : PW X (.BoolOp .And (a :: b :: es) pos) (tGT Γ W (tA t u)) :=
  pw_imp (pw_and ha hb) fun _ _ _ h => by
    obtain ⟨μ, L, M, hs, hm, hp⟩ := h
    refine ⟨μ, L, M, hs, hm, hp.bind fun x M1 μ1 v H1 _ e1 t1 m1 r1 hp1 => ?_⟩
    have r1 : x = v := r1
    subst r1
    cases x with
    | true => exact iteT ⟨μ1, L, M1, hs.mono e1 t1, m1, hp1⟩
    | false => exact iteF (hp1.here m1 rfl)
theorem pwm_or {t u : LT} (ha : PT X a (tGT Γ W t)) (hb : PW X (.BoolOp .Or (b :: es) pos) (tGT Γ W u)) : PW X (.BoolOp .Or (a :: b :: es) pos) (tGT Γ W (tO t u)) :=
  pw_imp (pw_or ha hb) fun _ _ _ h => by
    obtain ⟨μ, L, M, hs, hm, hp⟩ := h
    refine ⟨μ, L, M, hs, hm, hp.bind fun x M1 μ1 v H1 _ e1 t1 m1 r1 hp1 => ?_⟩
    have r1 : x = v := r1
    subst r1
    cases x with
    | true => exact iteT (hp1.here m1 rfl)
    | false => exact iteF ⟨μ1, L, M1, hs.mono e1 t1, m1, hp1⟩
theorem ptm_not {t : LT} (ha : PT X a (tGT Γ W t)) : PT X (.UnaryOp .Not a pos) (tGT Γ W (tN t)) :=
  pt_imp (pt_not ha) fun _ _ _ h => by
    obtain ⟨μ, L, M, hs, hm, hp⟩ := h
    refine ⟨μ, L, M, hs, hm, hp.bind fun x M1 μ1 v H1 _ e1 t1 m1 r1 hp1 => ?_⟩
    have r1 : x = v := r1
    subst r1
    exact hp1.here m1 rfl
theorem pm_if {t : LT} (hc : PT X c (tGT Γ W t)) (ha : PE X a (tG Γ W ma)) (hb : PE X b (tG Γ W mb)) : PE X (.IfExp c a b pos) (tG Γ W (eIf t ma mb)) :=
  pe_imp (pe_ifExp hc ha hb) fun _ _ _ h => by
    obtain ⟨μ, L, M, hs, hm, hp⟩ := h
    refine ⟨μ, L, M, hs, hm, hp.bind fun x M1 μ1 v H1 _ e1 t1 m1 r1 hp1 => ?_⟩
    have r1 : x = v := r1
    subst r1
    cases x with
    | true => exact iteT ⟨μ1, L, M1, hs.mono e1 t1, m1, hp1⟩
    | false => exact iteF ⟨μ1, L, M1, hs.mono e1 t1, m1, hp1⟩
theorem step_chain {f g : D → D → Mem → Res D} {σ : L2.St} {H : Hp} {Q : VK} (h : tG Γ W (eCh f g ma mb mc) σ H Q) : tChain (rG Γ f) (rG Γ g) (tG Γ W ma) (tG Γ W mb) (tG Γ W mc) σ H Q := by
  obtain ⟨μ, L, M, hs, hm, hp⟩ := h
  refine ⟨μ, L, M, hs, hm, hp.bind fun x M1 μ1 v H1 _ e1 t1 m1 r1 hp1 => ?_⟩
  refine ⟨μ1, L, M1, hs.mono e1 t1, m1, hp1.bind fun y M2 μ2 w H2 _ e2 t2 m2 r2 hp2 => ?_⟩
  refine ⟨μ2, M2, x, y, m2, r1.mono e2 t2, r2, (hp2.bind (R := RvR Γ) fun z M3 μ3 u H3 _ e3 t3 m3 r3 hp3 => ?_).loose⟩
  cases z with
  | bl k =>
    refine ⟨k, r3.bl, ?_⟩
    cases k with
    | true =>
      have hp4 : Pst Γ (W _) (RvR Γ) μ3 H3 ((mc L M3).bind fun w M5 => g y w M5) _ := hp3
      refine iteT ⟨μ3, L, M3, hs.mono ((e1.trans e2).trans e3) ((t1.trans t2).trans t3), m3, hp4.bind fun w' M4 μ4 u4 H4 _ e4 t4 m4 r4 hp5 => ?_⟩
      exact ⟨μ4, M4, y, w', m4, r2.mono (e3.trans e4) (t3.trans t4), r4, hp5.loose⟩
    | false =>
      have hp4 : Pst Γ (W _) (RvR Γ) μ3 H3 (.ok (.bl false) M3) _ := hp3
      exact iteF (hp4.here m3 (rv_bl _))
  | _ => exact hp3.elim
theorem pm_chain {op op' : CmpOp} {f g : D → D → Mem → Res D} (ho : OpR X (compareOp op) (rG Γ f)) (ho' : OpR X (compareOp op') (rG Γ g)) (ha : PE X a (tG Γ W ma)) (hb : PE X b (tG Γ W mb)) (hc : PE X c (tG Γ W mc))
    (hm : lastMarks [op, op'] [b, c] = false := by with_unfolding_all rfl) : PE X (.Compare a [op, op'] [b, c] pos) (tG Γ W (eCh f g ma mb mc)) :=
  pe_imp (pe_chain ho ho' ha hb hc hm) fun _ _ _ h => step_chain h
/-- a chain as a test -/
def tCh (f g : D → D → Mem → Res D) (a b c : LE) : LT := fun L M => (eCh f g a b c L M).bind asB
theorem ptm_chain {op op' : CmpOp} {f g : D → D → Mem → Res D} (ho : OpR X (compareOp op) (rG Γ f)) (ho' : OpR X (compareOp op') (rG Γ g)) (ha : PE X a (tG Γ W ma)) (hb : PE X b (tG Γ W mb)) (hc : PE X c (tG Γ W mc))
    (hm : lastMarks [op, op'] [b, c] = false := by with_unfolding_all rfl) : PT X (.Compare a [op, op'] [b, c] pos) (tGT Γ W (tCh f g ma mb mc)) :=
  pt_imp (pt_chain ho ho' ha hb hc hm) fun _ _ _ h => by
    obtain ⟨μ, L, M, hs, hm, hp⟩ := h
    refine step_chain ⟨μ, L, M, hs, hm, hp.bind fun z M3 μ3 u H3 _ e3 t3 m3 r3 hp3 => ?_⟩
    cases z with
    | bl k => exact ⟨k, r3.bl, hp3.here m3 rfl⟩
    | _ => exact hp3.elim
theorem pm_and (ha : PE X a (tG Γ W ma)) (hb : PE X (.BoolOp .And (b :: es) pos) (tG Γ W mb)) (hK : X.K = Γ.K := by rfl) : PE X (.BoolOp .And (a :: b :: es) pos) (tG Γ W (eAnd ma mb)) :=
  pe_imp (pe_andT ha hb) fun _ _ _ h => by
    obtain ⟨μ, L, M, hs, hm, hp⟩ := h
    refine ⟨μ, L, M, hs, hm, hp.bind fun x M1 μ1 v H1 _ e1 t1 m1 r1 hp1 => ?_⟩
    obtain ⟨k, t, hp2⟩ := tru_bind m1 r1 hp1
    rw [hK]
    refine ⟨k, t, ?_⟩
    cases k with
    | true => exact iteT ⟨μ1, L, M1, hs.mono e1 t1, m1, hp2⟩
    | false => exact iteF (Pst.here (Γ := Γ) (E := W _) (R := RvR Γ) hp2 m1 r1)
theorem pm_or (ha : PE X a (tG Γ W ma)) (hb : PE X (.BoolOp .Or (b :: es) pos) (tG Γ W mb)) (hK : X.K = Γ.K := by rfl) : PE X (.BoolOp .Or (a :: b :: es) pos) (tG Γ W (eOr ma mb)) :=
  pe_imp (pe_orT ha hb) fun _ _ _ h => by
    obtain ⟨μ, L, M, hs, hm, hp⟩ := h
    refine ⟨μ, L, M, hs, hm, hp.bind fun x M1 μ1 v H1 _ e1 t1 m1 r1 hp1 => ?_⟩
    obtain ⟨k, t, hp2⟩ := tru_bind m1 r1 hp1
    rw [hK]
    refine ⟨k, t, ?_⟩
    cases k with
    | true => exact iteT (Pst.here (Γ := Γ) (E := W _) (R := RvR Γ) hp2 m1 r1)
    | false => exact iteF ⟨μ1, L, M1, hs.mono e1 t1, m1, hp2⟩
theorem pm_not (ha : PE X a (tG Γ W ma)) (hK : X.K = Γ.K := by rfl) : PE X (.UnaryOp .Not a pos) (tG Γ W (eNot ma)) :=
  pe_imp (pe_notT ha) fun _ _ _ h => by
    obtain ⟨μ, L, M, hs, hm, hp⟩ := h
    refine ⟨μ, L, M, hs, hm, hp.bind fun x M1 μ1 v H1 _ e1 t1 m1 r1 hp1 => ?_⟩
    obtain ⟨k, t, hp2⟩ := tru_bind m1 r1 hp1
    rw [hK]
    exact ⟨k, t, hp2.here m1 (rv_bl _)⟩
theorem pm_one {op : BoolOp} (ha : PE X a (tG Γ W ma)) : PE X (.BoolOp op [a] pos) (tG Γ W ma) := pe_one ha

theorem pm_int {i j} : PE X (.Constant (.int i) j pos) (tG Γ W (eC (.int i))) := pe_imp pe_int fun _ _ _ ⟨_, _, _, _, hm, hp⟩ => hp.here hm (rv_int _)
theorem pm_bl {i j} : PE X (.Constant (.bool i) j pos) (tG Γ W (eC (.bl i))) := pe_imp pe_bl fun _ _ _ ⟨_, _, _, _, hm, hp⟩ => hp.here hm (rv_bl _)
theorem pm_non {j} : PE X (.Constant .none j pos) (tG Γ W (eC .non)) := pe_imp pe_non fun _ _ _ ⟨_, _, _, _, hm, hp⟩ => hp.here hm rv_non
theorem pm_str {x j} : PE X (.Constant (.str x) j pos) (tG Γ W (eC (.str x))) := pe_imp pe_str fun _ _ _ ⟨_, _, _, _, hm, hp⟩ => hp.here hm (rv_str _)
theorem pm_v (i : Nat) {x : Str} {pos : Pos} (hN : X.N[i]? = some x := by rfl) (hv : Vis X.env.scope x := by first | exact Or.inl rfl | exact Or.inr (Or.inl rfl) | exact Or.inr (Or.inr rfl)) (hd : (x == ("__debug__" : Str)) = false := by decide)
    (hcd : (x == ("__classdict__" : Str)) = false := by decide) : PE X (.Name x pos) (tG Γ W (eV i)) := pe_imp (pe_var hN hv hd hcd) fun _ _ _ h => by
  obtain ⟨μ, L, M, hs, hm, hp⟩ := h
  unfold eV at hp
  cases q : L[i]? with
  | none => simp only [q] at hp; exact hp.elim
  | some o =>
    cases o with
    | none => simp only [q] at hp; exact hp.elim
    | some d =>
      simp only [q] at hp
      obtain ⟨v, h1, h2⟩ := hs.2 i d q
      exact ⟨v, h1, hp.here hm h2⟩
/-- a global name: its value is written -/
theorem pm_g {x : Str} {d : D} {v : V} {u : Value} (hg : Gl X x) (hm : X.mg x = some u) (r : RelV v u) (rd : ∀ μ H, Rv Γ.K μ H d v) (hd : (x == ("__debug__" : Str)) = false := by decide) : PE X (.Name x pos) (tG Γ W (eC d)) :=
  pe_imp (pe_glob hg hm r hd) fun _ _ _ ⟨_, _, _, _, hm, hp⟩ => hp.here hm (rd _ _)

theorem pam_nil : PA X [] (tGA Γ W aN) := pa_imp pa_nil fun _ _ _ ⟨_, _, _, _, hm, hp⟩ => hp.here hm rvs_nil
theorem pam_cons {ml : LA} (ha : PE X e (tG Γ W ma)) (hr : PA X es (tGA Γ W ml)) (hs : starEach (e :: es) X.env = (false, eval e X.env) :: starEach es X.env := by rfl) : PA X (e :: es) (tGA Γ W (aC ma ml)) :=
  pa_imp (pa_cons ha hr hs) fun _ _ _ h => by
    obtain ⟨μ, L, M, hs, hm, hp⟩ := h
    refine ⟨μ, L, M, hs, hm, hp.bind fun x M1 μ1 v H1 _ e1 t1 m1 r1 hp1 => ?_⟩
    refine ⟨μ1, L, M1, hs.mono e1 t1, m1, hp1.bind fun xs M2 μ2 vs H2 _ e2 t2 m2 r2 hp2 => ?_⟩
    exact hp2.here m2 (rvs_cons (r1.mono e2 t2) r2)
theorem pm_tup {ml : LA} {k} (h : PA X es (tGA Γ W ml)) : PE X (.Tuple es k pos) (tG Γ W (eTup ml)) :=
  pe_imp (pe_tup h) fun _ _ _ h => by
    obtain ⟨μ, L, M, hs, hm, hp⟩ := h
    refine ⟨μ, L, M, hs, hm, hp.bind fun xs M1 μ1 vs H1 _ e1 t1 m1 r1 hp1 => ?_⟩
    by_cases q : xs.length ≤ 1000
    · simp only [q, if_true] at hp1
      exact ⟨by rw [r1.length]; exact Nat.le_trans q (by decide), fun p np => hp1.newT m1 r1 np⟩
    · simp only [q, if_false] at hp1
      exact hp1.elim
theorem pm_lst {ml : LA} (h : PA X es (tGA Γ W ml)) : PE X (.List es pos) (tG Γ W (eLst ml)) :=
  pe_imp (pe_lst h) fun _ _ _ h => by
    obtain ⟨μ, L, M, hs, hm, hp⟩ := h
    refine ⟨μ, L, M, hs, hm, hp.bind fun xs M1 μ1 vs H1 _ e1 t1 m1 r1 hp1 => ?_⟩
    by_cases q : xs.length ≤ 1000
    · simp only [q, if_true] at hp1
      exact ⟨by rw [r1.length]; exact Nat.le_trans q (by decide), fun p np => hp1.newL m1 r1 np⟩
    · simp only [q, if_false] at hp1
      exact hp1.elim
end
end G

/-! S3: the operations by values. -/
namespace G
open PySem L2

/-! ### ints, texts, tuples, lists -/
def big : Nat := 16000000
theorem big_le {n : Nat} (h : n ≤ big) : n ≤ sizeLine := Nat.le_trans h (by decide)
theorem big_lt {n : Nat} (h : n < big) : n < sizeLine := Nat.lt_of_lt_of_le h (by decide)
def dAdd (x y : D) (M : Mem) : Res D := match x, y with
  | .int i, .int j => .ok (.int (i + j)) M
  | .bl b, .int j => .ok (.int ((if b = true then 1 else 0) + j)) M
  | .str s, .str t => if s.length + t.length ≤ big then .ok (.str (s ++ t)) M else .no
  | .tup xs, .tup ys => if xs.length + ys.length ≤ big then .ok (.tup (xs ++ ys)) M else .no
  | .loc a, .loc b => match M[a]?, M[b]? with
    | some (.lst xs), some (.lst ys) => if xs.length + ys.length ≤ big then .ok (.loc M.length) (M ++ [.lst (xs ++ ys)]) else .no
    | _, _ => .no
  | _, _ => .no
def dSub (x y : D) (M : Mem) : Res D := match x, y with
  | .int i, .int j => .ok (.int (i - j)) M
  | .bl b, .int j => .ok (.int ((if b = true then 1 else 0) - j)) M
  | _, _ => .no
def dMul (x y : D) (M : Mem) : Res D := match x, y with
  | .int i, .int j => if i.natAbs.log2 + j.natAbs.log2 < 1000000 then .ok (.int (i * j)) M else .no
  | .tup xs, .int k => if -1000000 ≤ k ∧ k ≤ 1000000 then (if (xs.isEmpty || k == 1) = true then .ok (.tup xs) M else if k ≤ 0 then .ok (.tup []) M else if xs.length * k.toNat ≤ big then .ok (.tup (List.replicate k.toNat xs).flatten) M else .no) else .no
  | .loc a, .int k => match M[a]? with
    | some (.lst xs) => if 0 ≤ k ∧ k < 1000000 ∧ xs.length * k.toNat ≤ big then .ok (.loc M.length) (M ++ [.lst (List.replicate k.toNat xs).flatten]) else .no
    | _ => .no
  | _, _ => .no
def dDiv (x y : D) (M : Mem) : Res D := match x, y with
  | .int i, .int j => if j ≠ 0 ∧ j.natAbs.log2 < 9000 then .ok (.int (i.fdiv j)) M else .no
  | _, _ => .no
def dMod (x y : D) (M : Mem) : Res D := match x, y with
  | .int i, .int j => if j ≠ 0 then .ok (.int (i.fmod j)) M else .no
  | _, _ => .no
def dPow (x y : D) (M : Mem) : Res D := match x, y with
  | .int i, .int j => if 0 ≤ j ∧ j ≤ 1000000 ∧ i.natAbs < 2 ^ 64 then .ok (.int (i ^ j.toNat)) M else .no
  | _, _ => .no
def dShl (x y : D) (M : Mem) : Res D := match x, y with
  | .int i, .int j => if 0 ≤ j ∧ (i.natAbs.log2 : Int) + j ≤ 1000000 then .ok (.int (i * 2 ^ j.toNat)) M else .no
  | _, _ => .no
def dShr (x y : D) (M : Mem) : Res D := match x, y with
  | .int i, .int j => if 0 ≤ j then .ok (.int (i / 2 ^ j.toNat)) M else .no
  | _, _ => .no
def dI (f : Int → Int → Int) (x y : D) (M : Mem) : Res D := match x, y with
  | .int i, .int j => .ok (.int (f i j)) M
  | _, _ => .no
def dNeg (x : D) (M : Mem) : Res D := match x with
  | .int i => .ok (.int (-i)) M
  | _ => .no
def dInv (x : D) (M : Mem) : Res D := match x with
  | .int i => .ok (.int (Builtin.bitNot i)) M
  | _ => .no
def dCmpI (f : Int → Int → Bool) (x y : D) (M : Mem) : Res D := match x, y with
  | .int i, .int j => .ok (.bl (f i j)) M
  | _, _ => .no
def isNon : D → Bool
  | .non => true
  | _ => false
def dIs (x y : D) (M : Mem) : Res D := match y with
  | .non => .ok (.bl (isNon x)) M
  | .bl b => match x with
    | .bl a => .ok (.bl (a == b)) M
    | _ => .no
  | _ => .no
def dNot (f : D → D → Mem → Res D) (x y : D) (M : Mem) : Res D := match f x y M with
  | .ok (.bl b) M' => .ok (.bl (!b)) M'
  | _ => .no

/-! ### data, for == and repr: a value with all that it leads to -/
def lstP : Option PyData → Option PyData
  | some (.list xs) => some (.list xs)
  | _ => none
def dctP : Option PyData → Option PyData
  | some (.dict xs) => some (.dict xs)
  | _ => none
theorem lstP_some {o : Option PyData} {p : PyData} (h : lstP o = some p) : o = some p ∧ ∃ xs, p = .list xs := by
  unfold lstP at h
  split at h
  · cases h; exact ⟨rfl, _, rfl⟩
  · cases h
theorem dctP_some {o : Option PyData} {p : PyData} (h : dctP o = some p) : o = some p ∧ ∃ xs, p = .dict xs := by
  unfold dctP at h
  split at h
  · cases h; exact ⟨rfl, _, rfl⟩
  · cases h
mutual
def reif (f : Nat → Option PyData) : D → Option PyData
  | .non => some .none
  | .bl b => some (.bool b)
  | .int i => some (.int i)
  | .str s => some (.str s)
  | .tup ds => (reifs f ds).map PyData.tuple
  | .loc n => lstP (f n)
  | .obj n => dctP (f n)
def reifs (f : Nat → Option PyData) : List D → Option (List PyData)
  | [] => some []
  | d :: ds => (reif f d).bind fun x => (reifs f ds).map fun xs => x :: xs
end
def keyP : Key → PyData
  | .inl i => .int i
  | .inr s => .str s
/-- what a place leads to, lists and dicts within one another at most k deep -/
def heapD : Nat → Mem → Nat → Option PyData
  | 0, _, _ => none
  | k + 1, M, n => match M[n]? with
    | some (.lst ds) => (reifs (heapD k M) ds).map PyData.list
    | some (.rol ds) => (reifs (heapD k M) ds).map PyData.list
    | some (.dct kvs) => (reifs (heapD k M) (kvs.map (·.2))).map fun ps => PyData.dict ((kvs.map fun kv => keyP kv.1).zip ps)
    | _ => none
def pyD (M : Mem) (d : D) : Option PyData := reif (heapD 6 M) d
/-! data that may hold dicts -/
mutual
inductive Dq (K : PySem.W.Frag) (H : Hp) : V → PyData → Prop
  | non : Dq K H .non .none
  | bl (b : Bool) : Dq K H (.bl b) (.bool b)
  | int (i : Int) : Dq K H (.int i) (.int i)
  | str (x : Str) : Dq K H (.str x) (.str x)
  | lst {a : Addr} {xs : List V} {ds : List PyData} : SqL K H a xs → DqAll K H xs ds → Dq K H (.ref a) (.list ds)
  | tup {a : Addr} {xs : List V} {ds : List PyData} : SqT K H a xs → DqAll K H xs ds → Dq K H (.ref a) (.tuple ds)
  | dct {a : Addr} {ws : List (Key × V)} {ds : List PyData} : H a = some (.dK ws) → DqAll K H (ws.map (·.2)) ds → Dq K H (.ref a) (.dict ((ws.map fun kv => keyP kv.1).zip ds))
inductive DqAll (K : PySem.W.Frag) (H : Hp) : List V → List PyData → Prop
  | nil : DqAll K H [] []
  | cons {v : V} {vs : List V} {d : PyData} {ds : List PyData} : Dq K H v d → DqAll K H vs ds → DqAll K H (v :: vs) (d :: ds)
end
theorem DqAll.length {K : PySem.W.Frag} {H : Hp} : ∀ {vs : List V} {ds : List PyData}, DqAll K H vs ds → vs.length = ds.length
  | _, _, .nil => rfl
  | _, _, .cons _ t => by rw [List.length_cons, List.length_cons, t.length]
mutual
/-- what is read, and no dict is the one of the modules -/
inductive RdsS (h : Heap) : Value → PyData → Prop
  | none : RdsS h .none .none
  | bool (b) : RdsS h (.bool b) (.bool b)
  | int (i t) : RdsS h (.int i t) (.int i)
  | str (x t) : RdsS h (.str x t) (.str x)
  | list {a : Addr} {o : Obj} {vs : Array Value} {n : Nat} {xs : List PyData} : h.get? a = some o → o.cls = .type "list" → o.data = .seq vs n → RdsA h vs.toList xs → RdsS h (.ref a) (.list xs)
  | tuple {a : Addr} {o : Obj} {vs : Array Value} {n : Nat} {xs : List PyData} : h.get? a = some o → o.cls = .type "tuple" → o.data = .seq vs n → RdsA h vs.toList xs → RdsS h (.ref a) (.tuple xs)
  | dict {a : Addr} {o : Obj} {es : Array DictEntry} {n : Nat} {kvs : List (PyData × PyData)} : h.get? a = some o → o.cls = .type "dict" → (a == sysModules) = false → o.data = .dict es n → RdsA h (es.toList.map (·.key)) (kvs.map (·.1)) → RdsA h (es.toList.map (·.val)) (kvs.map (·.2)) → RdsS h (.ref a) (.dict kvs)
inductive RdsA (h : Heap) : List Value → List PyData → Prop
  | nil : RdsA h [] []
  | cons {v : Value} {vs : List Value} {d : PyData} {ds : List PyData} : RdsS h v d → RdsA h vs ds → RdsA h (v :: vs) (d :: ds)
end
mutual
theorem RdsS.reads {h : Heap} : ∀ {v : Value} {d : PyData}, RdsS h v d → ∃ as, Reads h v d as
  | _, _, .none => ⟨_, .none⟩
  | _, _, .bool b => ⟨_, .bool b⟩
  | _, _, .int i t => ⟨_, .int i t⟩
  | _, _, .str x t => ⟨_, .str x t⟩
  | _, _, .list e1 e2 e3 r => let ⟨_, q⟩ := r.reads; ⟨_, .list e1 e2 e3 q⟩
  | _, _, .tuple e1 e2 e3 r => let ⟨_, q⟩ := r.reads; ⟨_, .tuple e1 e2 e3 q⟩
  | _, _, .dict e1 e2 _ e3 r t => let ⟨_, q⟩ := r.reads; let ⟨_, p⟩ := t.reads; ⟨_, .dict e1 e2 e3 q p⟩
theorem RdsA.reads {h : Heap} : ∀ {vs : List Value} {ds : List PyData}, RdsA h vs ds → ∃ as, ReadsAll h vs ds as
  | _, _, .nil => ⟨_, .nil⟩
  | _, _, .cons r t => let ⟨_, q⟩ := r.reads; let ⟨_, p⟩ := t.reads; ⟨_, .cons q p⟩
end
theorem pairs_keys {P : Program} {w : World} {h : Heap} : ∀ {es : List DictEntry} {vs : List (Key × Value)}, PySem.Pairs (mixKind P w) es vs → RdsA h (es.map (·.key)) (vs.map fun kv => keyP kv.1)
  | _, _, .nil => .nil
  | _, _, .cons (e := e) (kv := kv) q _ t => by
    refine .cons ?_ (pairs_keys t)
    have z : keyIs kv.1 e.key = true := q
    show RdsS h e.key (keyP kv.1)
    rcases keyIs_shape z with ⟨i, t, e1, e2⟩ | ⟨i, t, e1, e2⟩
    · rw [e1, e2]; exact .int _ _
    · rw [e1, e2]; exact .str _ _
theorem pairs_vals {P : Program} {w : World} : ∀ {es : List DictEntry} {vs : List (Key × Value)}, PySem.Pairs (mixKind P w) es vs → es.map (·.val) = vs.map (·.2)
  | _, _, .nil => rfl
  | _, _, .cons _ e t => by rw [List.map_cons, List.map_cons, e, pairs_vals t]
theorem kv_vals : ∀ {ws : List (Key × V)} {vs : List (Key × Value)}, L2.KV ws vs → Vals (ws.map (·.2)) (vs.map (·.2)) ∧ (ws.map fun kv => keyP kv.1) = vs.map fun kv => keyP kv.1
  | _, _, .nil => ⟨.nil, rfl⟩
  | _, _, .cons r t => by
    obtain ⟨h1, h2⟩ := kv_vals t
    exact ⟨.cons r.2 h1, by rw [List.map_cons, List.map_cons, r.1, h2]⟩
section
variable {X : Cx} {pins : List (Addr × Obj)} {σ : L2.St} {H : Hp} {s : Shared}
mutual
theorem Dq.rds (I : Inv X pins σ H s) : ∀ {v : V} {d : PyData} {u : Value}, Dq X.K H v d → RelV v u → RdsS s.heap u d
  | _, _, _, .non, r => by cases r; exact .none
  | _, _, _, .bl b, r => by cases r; exact .bool b
  | _, _, _, .int i, r => by obtain ⟨t, rfl⟩ := r; exact .int i t
  | _, _, _, .str x, r => by obtain ⟨t, rfl⟩ := r; exact .str x t
  | _, _, _, .lst hs ha, r => by
    cases r
    obtain ⟨its, rv, ⟨o, n, ho, hc, _, hd⟩, _⟩ := I.list hs
    exact .list ho hc hd (DqAll.rds I ha (by simpa using rv))
  | _, _, _, .tup hs ha, r => by
    cases r
    obtain ⟨its, rv, ⟨o, ho, hc, n, hd⟩, _⟩ := I.tuple hs
    exact .tuple ho hc hd (DqAll.rds I ha (by simpa using rv))
  | _, _, _, .dct (ws := ws) (ds := ds) hs ha, r => by
    cases r
    obtain ⟨_, hne, vs, kv, o, es, ep, e1, e2, e3, _, pr, _⟩ := I.hok _ _ hs
    obtain ⟨rv, rk⟩ := kv_vals kv
    have hl := ha.length
    have hl2 : (ws.map fun kv => keyP kv.1).length = ds.length := by rw [← hl]; simp
    refine .dict e1 e2.1 hne e3 ?_ ?_
    · rw [List.map_fst_zip (Nat.le_of_eq hl2), rk]
      exact pairs_keys pr
    · rw [List.map_snd_zip (Nat.le_of_eq hl2.symm), pairs_vals pr]
      exact DqAll.rds I ha rv
theorem DqAll.rds (I : Inv X pins σ H s) : ∀ {vs : List V} {ds : List PyData} {us : List Value}, DqAll X.K H vs ds → Vals vs us → RdsA s.heap us ds
  | _, _, _, .nil, .nil => .nil
  | _, _, _, .cons h t, .cons r q => .cons (Dq.rds I h r) (DqAll.rds I t q)
end
end
mutual
theorem Dq.dp {K : PySem.W.Frag} {H : Hp} : ∀ {v : V} {d : PyData}, Dq K H v d → d.canLay0 = true → Dp K H v d
  | _, _, .non, _ => .non
  | _, _, .bl b, _ => .bl b
  | _, _, .int i, _ => .int i
  | _, _, .str x, _ => .str x
  | _, _, .lst hs ha, e => .lst hs (ha.dp (by simpa only [PyData.canLay0] using e))
  | _, _, .tup hs ha, e => .tup hs (ha.dp (by simpa only [PyData.canLay0] using e))
  | _, _, .dct _ _, e => by simp [PyData.canLay0] at e
theorem DqAll.dp {K : PySem.W.Frag} {H : Hp} : ∀ {vs : List V} {ds : List PyData}, DqAll K H vs ds → PyData.canLayAll0 ds = true → DpAll K H vs ds
  | _, _, .nil, _ => .nil
  | _, _, .cons (d := d) (ds := ds) h t, e => by
    have e' : d.canLay0 = true ∧ PyData.canLayAll0 ds = true := by simpa [PyData.canLayAll0] using e
    exact .cons (h.dp e'.1) (t.dp e'.2)
end
section
variable {K : PySem.W.Frag} {μ : Plc} {H : Hp} {f : Nat → Option PyData}
def FOk (K : PySem.W.Frag) (μ : Plc) (H : Hp) (f : Nat → Option PyData) : Prop := ∀ n d a k, f n = some d → μ[n]? = some (a, k) → Dq K H (.ref a) d
mutual
theorem reif_dp (hf : FOk K μ H f) : ∀ (d : D) {v : V} {p : PyData}, Rv K μ H d v → reif f d = some p → Dq K H v p
  | .non, _, _, r, e => by
    obtain rfl := r.non
    unfold reif at e; cases e
    exact .non
  | .bl b, _, _, r, e => by
    obtain rfl := r.bl
    unfold reif at e; cases e
    exact .bl b
  | .int i, _, _, r, e => by
    obtain rfl := r.int
    unfold reif at e; cases e
    exact .int i
  | .str s, _, _, r, e => by
    obtain rfl := r.str
    unfold reif at e; cases e
    exact .str s
  | .loc n, _, _, r, e => by
    obtain ⟨a, rfl, h⟩ := r.loc
    unfold reif at e
    exact hf n _ a _ (lstP_some e).1 h
  | .obj n, _, _, r, e => by
    obtain ⟨a, rfl, h⟩ := r.obj
    unfold reif at e
    exact hf n _ a _ (dctP_some e).1 h
  | .tup ds, _, _, r, e => by
    obtain ⟨a, vs, rfl, h1, h2⟩ := r.tup
    unfold reif at e
    cases q : reifs f ds with
    | none => rw [q] at e; cases e
    | some ps =>
      rw [q] at e; cases e
      exact .tup h1 (reifs_dp hf ds h2 q)
theorem reifs_dp (hf : FOk K μ H f) : ∀ (ds : List D) {vs : List V} {ps : List PyData}, Rvs K μ H ds vs → reifs f ds = some ps → DqAll K H vs ps
  | [], _, _, r, e => by
    obtain rfl := r.nil
    unfold reifs at e; cases e
    exact .nil
  | d :: ds, _, _, r, e => by
    obtain ⟨v, vs, rfl, h1, h2⟩ := r.uncons
    unfold reifs at e
    cases q : reif f d with
    | none => rw [q] at e; cases e
    | some x =>
      rw [q] at e
      cases q2 : reifs f ds with
      | none => rw [q2] at e; cases e
      | some xs =>
        rw [q2] at e; cases e
        exact .cons (reif_dp hf d h1 q) (reifs_dp hf ds h2 q2)
end
theorem heapD_ok [Tab] {M : Mem} (m : RM K μ H M) : ∀ k, FOk K μ H (heapD k M)
  | 0, _, _, _, _, e, _ => by unfold heapD at e; cases e
  | k + 1, n, d, a, fl, e, ha => by
    unfold heapD at e
    cases q : M[n]? with
    | none => rw [q] at e; cases e
    | some o =>
      rw [q] at e
      obtain ⟨z, ro⟩ := m.obj _ _ _ _ ha q
      cases o with
      | lst ds =>
        simp only at e
        cases z
        obtain ⟨vs, h1, h2⟩ := m.sql ha q
        cases q2 : reifs (heapD k M) ds with
        | none => rw [q2] at e; cases e
        | some ps =>
          rw [q2] at e; cases e
          exact .lst h1 (reifs_dp (heapD_ok m k) _ h2 q2)
      | rol ds =>
        simp only at e
        cases z
        obtain ⟨vs, h1, h2⟩ := m.sql ha q
        cases q2 : reifs (heapD k M) ds with
        | none => rw [q2] at e; cases e
        | some ps =>
          rw [q2] at e; cases e
          exact .lst h1 (reifs_dp (heapD_ok m k) _ h2 q2)
      | dct kvs =>
        simp only at e
        obtain ⟨ws, h1, h2, h3⟩ := ro
        cases q2 : reifs (heapD k M) (kvs.map (·.2)) with
        | none => rw [q2] at e; cases e
        | some ps =>
          rw [q2] at e; cases e
          have e1 : (kvs.map fun kv => keyP kv.1) = ws.map fun kv => keyP kv.1 := by
            have := congrArg (List.map keyP) h2
            simpa [List.map_map, Function.comp_def] using this.symm
          rw [e1]
          exact .dct h1 (reifs_dp (heapD_ok m k) _ h3 q2)
      | dtn _ => exact ro.elim
      | ins _ _ => exact ro.elim
theorem pyD_dp [Tab] {M : Mem} (m : RM K μ H M) {d : D} {v : V} {p : PyData} (r : Rv K μ H d v) (e : pyD M d = some p) : Dq K H v p := reif_dp (heapD_ok m 6) d r e
end
def strsD : D → D → Option (Str × Str)
  | .str s, .str t => some (s, t)
  | _, _ => none
/-- against an empty tuple, an empty list -/
def emptD (x y : D) (M : Mem) : Option Bool := match x, y with
  | .tup ds, .tup [] => some ds.isEmpty
  | .loc n, .loc m => match M[n]?, M[m]? with
    | some o, some u => if u.items.isEmpty = true then some o.items.isEmpty else none
    | _, _ => none
  | _, _ => none
def emptR (x y : D) (n : Bool) (M : Mem) : Res D := match emptD x y M with
  | some b => .ok (.bl (b != n)) M
  | none => .no
def dEq (x y : D) (M : Mem) : Res D := match strsD x y with
  | some p => .ok (.bl (p.1 == p.2)) M
  | none => match pyD M x, pyD M y with
  | some d, some e => if SeqAt.shaped d = true ∧ SeqAt.shaped e = true then .ok (.bl (PyData.eqv d e)) M else emptR x y false M
  | _, _ => emptR x y false M
def dNe (x y : D) (M : Mem) : Res D := match strsD x y with
  | some p => .ok (.bl (p.1 != p.2)) M
  | none => match pyD M x, pyD M y with
  | some d, some e => if SeqAt.shaped d = true ∧ SeqAt.shaped e = true then .ok (.bl (!PyData.eqv d e)) M else emptR x y true M
  | _, _ => emptR x y true M
/-- flat values, for in -/
def flatD : D → Bool
  | .tup _ => false
  | .loc _ => false
  | .obj _ => false
  | _ => true
def eqF : D → D → Bool
  | .non, .non => true
  | .bl a, .bl b => a == b
  | .bl a, .int j => (if a then 1 else 0) == j
  | .int i, .bl b => i == (if b then 1 else 0)
  | .int i, .int j => i == j
  | .str x, .str y => x == y
  | _, _ => false

/-! ### the operations are simulated -/
section
variable [Tab] {X : Cx} {Γ : Gx} {ce : Nat → Addr × List Str}
theorem og_add : OpR X (binaryOp .Add) (rG ⟨X.K, ce⟩ dAdd) := by
  intro pins s σ H x y v u Q I rx ry h
  obtain ⟨μ, M, a, b, hm, ra, rb, hp⟩ := h
  cases a with
  | int i =>
    cases b with
    | int j =>
      obtain rfl := ra.int; obtain rfl := rb.int
      exact op_add pins s σ H _ _ v u Q I rx ry ⟨i, j, rfl, rfl, hp.here hm (rv_int _)⟩
    | _ => exact hp.elim
  | bl k =>
    cases b with
    | int j =>
      obtain rfl := ra.bl; obtain rfl := rb.int
      cases rx
      obtain ⟨t, rfl⟩ := ry
      exact PySem.IntBool.add_bool_int ⟨.int _, H, I.tok _, ⟨_, rfl⟩, hp.here hm (rv_int _)⟩
    | _ => exact hp.elim
  | str z =>
    cases b with
    | str z' =>
      obtain rfl := ra.str; obtain rfl := rb.str
      unfold dAdd at hp
      by_cases q : z.length + z'.length ≤ big
      · simp only [q, if_true] at hp
        exact op_add_str pins s σ H _ _ v u Q I rx ry ⟨z, z', rfl, rfl, big_le q, hp.here hm (rv_str _)⟩
      · simp only [q, if_false] at hp; exact hp.elim
    | _ => exact hp.elim
  | tup ds =>
    cases b with
    | tup es =>
      obtain ⟨p, vs, rfl, h1, h2⟩ := ra.tup
      obtain ⟨p', ws, rfl, h3, h4⟩ := rb.tup
      unfold dAdd at hp
      by_cases q : ds.length + es.length ≤ big
      · simp only [q, if_true] at hp
        refine op_catA pins s σ H _ _ v u Q I rx ry ⟨p, p', vs, ws, rfl, rfl, h1, h3, by rw [h2.length, h4.length]; exact big_le q, fun e => ?_, fun _ e => ?_, fun _ _ np n0 => ?_⟩
        · subst e
          have e1 : ds = [] := List.eq_nil_of_length_eq_zero (by rw [← h2.length]; rfl)
          subst e1
          exact hp.here hm (rv_tup h3 h4)
        · subst e
          have e1 : es = [] := List.eq_nil_of_length_eq_zero (by rw [← h4.length]; rfl)
          subst e1
          rw [List.append_nil] at hp
          exact hp.here hm (rv_tup h1 h2)
        · exact hp.newT hm (h2.append h4) n0
      · simp only [q, if_false] at hp; exact hp.elim
    | _ => exact hp.elim
  | loc n =>
    cases b with
    | loc n' =>
      obtain ⟨p, rfl, h1⟩ := ra.loc
      obtain ⟨p', rfl, h2⟩ := rb.loc
      unfold dAdd at hp
      cases q : M[n]? with
      | none => simp only [q] at hp; exact hp.elim
      | some o =>
        cases q' : M[n']? with
        | none => cases o <;> (simp only [q, q'] at hp; exact hp.elim)
        | some o' =>
          simp only [q, q'] at hp
          cases o with
          | rol ds => exact hp.elim
          | dct _ => exact hp.elim
          | dtn _ => exact hp.elim
          | ins _ _ => exact hp.elim
          | lst ds =>
            cases o' with
            | rol es => exact hp.elim
            | dct _ => exact hp.elim
            | dtn _ => exact hp.elim
            | ins _ _ => exact hp.elim
            | lst es =>
              obtain ⟨vs, h3, h4⟩ := hm.lst h1 q
              obtain ⟨ws, h5, h6⟩ := hm.lst h2 q'
              simp only at hp
              by_cases z : ds.length + es.length ≤ big
              · simp only [z, if_true] at hp
                exact op_cat pins s σ H _ _ v u Q I rx ry ⟨p, p', vs, ws, rfl, rfl, h3, h5, by rw [h4.length, h6.length]; exact big_le z, fun np n0 => hp.newL hm (h4.append h6) n0⟩
              · simp only [z, if_false] at hp; exact hp.elim
    | _ => exact hp.elim
  | _ => exact hp.elim
/-- an operation on two ints with a condition -/
theorem og_I {f : Value → Value → Sem Value} {C : Int → Int → Prop} {g : Int → Int → V} {g' : Int → Int → D} {d : D → D → Mem → Res D} (ho : OpR X f (rI C g))
    (hd : ∀ (μ : Plc) (H : Hp) (x y : D) (M : Mem) (Q : VK), Pst ⟨X.K, ce⟩ ET (RvR ⟨X.K, ce⟩) μ H (d x y M) Q → ∃ i j, x = .int i ∧ y = .int j ∧ C i j ∧ d x y M = .ok (g' i j) M)
    (hg : ∀ μ H i j, Rv X.K μ H (g' i j) (g i j)) : OpR X f (rG ⟨X.K, ce⟩ d) := by
  intro pins s σ H x y v u Q I rx ry h
  obtain ⟨μ, M, a, b, hm, ra, rb, hp⟩ := h
  obtain ⟨i, j, rfl, rfl, c, e⟩ := hd _ _ _ _ _ _ hp
  rw [e] at hp
  obtain rfl := ra.int; obtain rfl := rb.int
  exact ho pins s σ H _ _ v u Q I rx ry ⟨i, j, rfl, rfl, c, hp.here hm (hg _ _ _ _)⟩
theorem og_I0 {f : Value → Value → Sem Value} {g : Int → Int → V} {g' : Int → Int → D} {d : D → D → Mem → Res D} (ho : OpR X f (rI0 g))
    (hd : ∀ (μ : Plc) (H : Hp) (x y : D) (M : Mem) (Q : VK), Pst ⟨X.K, ce⟩ ET (RvR ⟨X.K, ce⟩) μ H (d x y M) Q → ∃ i j, x = .int i ∧ y = .int j ∧ d x y M = .ok (g' i j) M)
    (hg : ∀ μ H i j, Rv X.K μ H (g' i j) (g i j)) : OpR X f (rG ⟨X.K, ce⟩ d) :=
  og_I (C := fun _ _ => True) (fun pins s σ H x y v u Q I rx ry ⟨i, j, e1, e2, _, q⟩ => ho pins s σ H x y v u Q I rx ry ⟨i, j, e1, e2, q⟩)
    (fun μ H x y M Q hp => let ⟨i, j, e1, e2, e⟩ := hd μ H x y M Q hp; ⟨i, j, e1, e2, trivial, e⟩) hg
theorem og_sub : OpR X (binaryOp .Sub) (rG ⟨X.K, ce⟩ dSub) := by
  intro pins s σ H x y v u Q I rx ry h
  obtain ⟨μ, M, a, b, hm, ra, rb, hp⟩ := h
  cases a with
  | int i =>
    cases b with
    | int j =>
      obtain rfl := ra.int; obtain rfl := rb.int
      exact op_sub pins s σ H _ _ v u Q I rx ry ⟨i, j, rfl, rfl, hp.here hm (rv_int _)⟩
    | _ => exact hp.elim
  | bl k =>
    cases b with
    | int j =>
      obtain rfl := ra.bl; obtain rfl := rb.int
      cases rx
      obtain ⟨t, rfl⟩ := ry
      exact PySem.IntBool.sub_bool_int ⟨.int _, H, I.tok _, ⟨_, rfl⟩, hp.here hm (rv_int _)⟩
    | _ => exact hp.elim
  | _ => exact hp.elim
theorem og_and : OpR X (binaryOp .BitAnd) (rG ⟨X.K, ce⟩ (dI Builtin.bitAnd)) := og_I0 (g' := fun i j => .int (Builtin.bitAnd i j)) op_and (fun μ H x y M Q hp => by
  cases x <;> cases y <;> first | exact ⟨_, _, rfl, rfl, rfl⟩ | exact hp.elim) fun _ _ _ _ => rv_int _
theorem og_or : OpR X (binaryOp .BitOr) (rG ⟨X.K, ce⟩ (dI Builtin.bitOr)) := og_I0 (g' := fun i j => .int (Builtin.bitOr i j)) op_or (fun μ H x y M Q hp => by
  cases x <;> cases y <;> first | exact ⟨_, _, rfl, rfl, rfl⟩ | exact hp.elim) fun _ _ _ _ => rv_int _
theorem og_xor : OpR X (binaryOp .BitXor) (rG ⟨X.K, ce⟩ (dI Builtin.bitXor)) := og_I0 (g' := fun i j => .int (Builtin.bitXor i j)) op_xor (fun μ H x y M Q hp => by
  cases x <;> cases y <;> first | exact ⟨_, _, rfl, rfl, rfl⟩ | exact hp.elim) fun _ _ _ _ => rv_int _
theorem og_div : OpR X (binaryOp .FloorDiv) (rG ⟨X.K, ce⟩ dDiv) := og_I (C := fun _ j => j ≠ 0 ∧ j.natAbs.log2 < 9000) (g := fun i j => .int (i.fdiv j)) (g' := fun i j => .int (i.fdiv j))
  (opI fun i j _ _ _ _ _ hc q => PyProof.Rows.floordiv_int hc.1 q (.inl (PyProof.noPylong_of_log2 hc.2))) (fun μ H x y M Q hp => by
  cases x <;> cases y <;> first
    | exact hp.elim
    | (unfold dDiv at hp ⊢
       rename_i i j
       by_cases q : j ≠ 0 ∧ j.natAbs.log2 < 9000
       · exact ⟨_, _, rfl, rfl, q, by simp only [q, ne_eq, not_false_eq_true, and_self, if_true]⟩
       · simp only [q, if_false] at hp; exact hp.elim)) fun _ _ _ _ => rv_int _
theorem og_mod : OpR X (binaryOp .Mod) (rG ⟨X.K, ce⟩ dMod) := og_I (g' := fun i j => .int (i.fmod j)) op_modN (fun μ H x y M Q hp => by
  cases x <;> cases y <;> first
    | exact hp.elim
    | (unfold dMod at hp ⊢
       rename_i i j
       by_cases q : j ≠ 0
       · exact ⟨_, _, rfl, rfl, q, by simp only [q, ne_eq, not_false_eq_true, if_true]⟩
       · simp only [q, if_false] at hp; exact hp.elim)) fun _ _ _ _ => rv_int _
theorem og_pow : OpR X (binaryOp .Pow) (rG ⟨X.K, ce⟩ dPow) := og_I (g' := fun i j => .int (i ^ j.toNat)) op_pow (fun μ H x y M Q hp => by
  cases x <;> cases y <;> first
    | exact hp.elim
    | (unfold dPow at hp ⊢
       rename_i i j
       by_cases q : 0 ≤ j ∧ j ≤ 1000000 ∧ i.natAbs < 2 ^ 64
       · exact ⟨_, _, rfl, rfl, q, by simp only [q, and_self, if_true]⟩
       · simp only [q, if_false] at hp; exact hp.elim)) fun _ _ _ _ => rv_int _
theorem og_shr : OpR X (binaryOp .RShift) (rG ⟨X.K, ce⟩ dShr) := og_I (g' := fun i j => .int (i / 2 ^ j.toNat)) op_shr (fun μ H x y M Q hp => by
  cases x <;> cases y <;> first
    | exact hp.elim
    | (unfold dShr at hp ⊢
       rename_i i j
       by_cases q : 0 ≤ j
       · exact ⟨_, _, rfl, rfl, q, by simp only [q, if_true]⟩
       · simp only [q, if_false] at hp; exact hp.elim)) fun _ _ _ _ => rv_int _
theorem og_shl : OpR X (binaryOp .LShift) (rG ⟨X.K, ce⟩ dShl) := og_I (g' := fun i j => .int (i * 2 ^ j.toNat)) op_shlW (fun μ H x y M Q hp => by
  cases x <;> cases y <;> first
    | exact hp.elim
    | (unfold dShl at hp ⊢
       rename_i i j
       by_cases q : 0 ≤ j ∧ (i.natAbs.log2 : Int) + j ≤ 1000000
       · refine ⟨_, _, rfl, rfl, ⟨q.1, ?_⟩, by simp only [q, and_self, if_true]⟩
         have b : Builtin.Int.intBits i ≤ i.natAbs.log2 + 1 := by
           unfold Builtin.Int.intBits
           split <;> omega
         have := q.2
         have e : (2 : Int) ^ 27 = 134217728 := by decide
         rw [e]
         omega
       · simp only [q, if_false] at hp; exact hp.elim)) fun _ _ _ _ => rv_int _
theorem og_mul : OpR X (binaryOp .Mult) (rG ⟨X.K, ce⟩ dMul) := by
  intro pins s σ H x y v u Q I rx ry h
  obtain ⟨μ, M, a, b, hm, ra, rb, hp⟩ := h
  cases a with
  | int i =>
    cases b with
    | int j =>
      obtain rfl := ra.int; obtain rfl := rb.int
      unfold dMul at hp
      by_cases q : i.natAbs.log2 + j.natAbs.log2 < 1000000
      · simp only [q, if_true] at hp
        exact op_mulW pins s σ H _ _ v u Q I rx ry ⟨i, j, rfl, rfl, q, hp.here hm (rv_int _)⟩
      · simp only [q, if_false] at hp; exact hp.elim
    | _ => exact hp.elim
  | tup xs =>
    cases b with
    | int k =>
      obtain ⟨p, vs, rfl, h1, h2⟩ := ra.tup
      obtain rfl := rb.int
      unfold dMul at hp
      by_cases q : -1000000 ≤ k ∧ k ≤ 1000000
      · simp only [q, and_self, if_true] at hp
        have e0 : vs.isEmpty = xs.isEmpty := by
          have := h2.length
          cases vs <;> cases xs <;> simp_all
        refine op_rep3 pins s σ H _ _ v u Q I rx ry ⟨p, k, vs, rfl, rfl, h1, q.1, q.2, ?_⟩
        rw [e0]
        by_cases c1 : (xs.isEmpty || k == 1) = true
        · rw [if_pos c1] at hp ⊢
          exact hp.here hm (rv_tup h1 h2)
        · rw [if_neg c1] at hp ⊢
          by_cases c2 : k ≤ 0
          · rw [if_pos c2] at hp ⊢
            exact fun np n0 => hp.newT hm rvs_nil n0
          · rw [if_neg c2] at hp ⊢
            by_cases z : xs.length * k.toNat ≤ big
            · rw [if_pos z] at hp
              refine ⟨by rw [h2.length]; exact z, fun np n0 => hp.newT hm ?_ n0⟩
              have rr : ∀ k : Nat, Rvs X.K μ H (List.replicate k xs).flatten (List.replicate k vs).flatten := fun k => by
                induction k with
                | zero => exact rvs_nil
                | succ k ih =>
                  simp only [List.replicate_succ, List.flatten_cons]
                  exact h2.append ih
              exact rr _
            · rw [if_neg z] at hp; exact hp.elim
      · simp only [q, if_false] at hp; exact hp.elim
    | _ => exact hp.elim
  | loc n =>
    cases b with
    | int k =>
      obtain ⟨p, rfl, h1⟩ := ra.loc
      obtain rfl := rb.int
      unfold dMul at hp
      cases q : M[n]? with
      | none => simp only [q] at hp; exact hp.elim
      | some o =>
        simp only [q] at hp
        cases o with
        | rol ds => exact hp.elim
        | dct _ => exact hp.elim
        | dtn _ => exact hp.elim
        | ins _ _ => exact hp.elim
        | lst ds =>
          obtain ⟨vs, h3, h4⟩ := hm.lst h1 q
          simp only at hp
          by_cases z : 0 ≤ k ∧ k < 1000000 ∧ ds.length * k.toNat ≤ big
          · simp only [z, and_self, if_true] at hp
            refine op_rep pins s σ H _ _ v u Q I rx ry ⟨p, k, vs, rfl, rfl, h3, by omega, by omega, by rw [h4.length]; exact big_le z.2.2, fun np n0 => ?_⟩
            have rr : ∀ k : Nat, Rvs X.K μ H (List.replicate k ds).flatten (List.replicate k vs).flatten := fun k => by
              induction k with
              | zero => exact rvs_nil
              | succ k ih =>
                rw [List.replicate_succ, List.replicate_succ, List.flatten_cons, List.flatten_cons]
                exact h4.append ih
            exact hp.newL hm (rr _) n0
          · simp only [z, if_false] at hp; exact hp.elim
    | _ => exact hp.elim
  | _ => cases b <;> exact hp.elim
theorem og_lt : OpR X (compareOp .Lt) (rG ⟨X.K, ce⟩ (dCmpI fun i j => decide (i < j))) := og_I0 (g' := fun i j => .bl (decide (i < j))) op_lt (fun μ H x y M Q hp => by
  cases x <;> cases y <;> first | exact ⟨_, _, rfl, rfl, rfl⟩ | exact hp.elim) fun _ _ _ _ => rv_bl _
theorem og_le : OpR X (compareOp .LtE) (rG ⟨X.K, ce⟩ (dCmpI fun i j => decide (i ≤ j))) := og_I0 (g' := fun i j => .bl (decide (i ≤ j))) op_le (fun μ H x y M Q hp => by
  cases x <;> cases y <;> first | exact ⟨_, _, rfl, rfl, rfl⟩ | exact hp.elim) fun _ _ _ _ => rv_bl _
theorem og_gt : OpR X (compareOp .Gt) (rG ⟨X.K, ce⟩ (dCmpI fun i j => decide (j < i))) := og_I0 (g' := fun i j => .bl (decide (j < i))) op_gt (fun μ H x y M Q hp => by
  cases x <;> cases y <;> first | exact ⟨_, _, rfl, rfl, rfl⟩ | exact hp.elim) fun _ _ _ _ => rv_bl _
theorem og_ge : OpR X (compareOp .GtE) (rG ⟨X.K, ce⟩ (dCmpI fun i j => decide (j ≤ i))) := og_I0 (g' := fun i j => .bl (decide (j ≤ i))) op_ge (fun μ H x y M Q hp => by
  cases x <;> cases y <;> first | exact ⟨_, _, rfl, rfl, rfl⟩ | exact hp.elim) fun _ _ _ _ => rv_bl _
theorem empt_eq {pins : List (Addr × Obj)} {s : Shared} {σ : L2.St} {H : Hp} {μ : Plc} {M : Mem} {a b : G.D} {x y : V} {v u : Value} {k : Bool} {Q : VK} (hu : X.A.units + 64 < cLine) (I : Inv X pins σ H s) (hm : RM X.K μ H M) (ra : Rv X.K μ H a x) (rb : Rv X.K μ H b y) (rx : RelV x v) (ry : RelV y u)
    (q : emptD a b M = some k) (h : Q (.bl (k != false)) H) : wpAny (model X.prog X.w) X.A (compareOp .Eq v u) (EP X pins σ Q) X.xe s := by
  have hu0 : X.A.units < cLine := by omega
  have fin : EP X pins σ Q (.bool (k != false)) s := ⟨.bl _, H, I, rfl, h⟩
  unfold emptD at q
  split at q
  · rename_i ds
    obtain ⟨p, vs, rfl, h1, h2⟩ := ra.tup
    obtain ⟨p', ws, rfl, h3, h4⟩ := rb.tup
    cases rx; cases ry
    obtain rfl := h4.nil
    obtain ⟨its, r1, t1, _⟩ := I.tuple h1
    obtain ⟨its', r2, t2, _⟩ := I.tuple h3
    cases r2
    cases q
    have hl : its.length = ds.length := by rw [← r1.length, h2.length]
    refine SeqAt.RcAt.tuples (e := fun _ => true) t1 t2 hu0 (fun j _ z => absurd z (by simp)) _ _ _ _ ?_
    have e : (its.length == 0) = ds.isEmpty := by rw [hl]; cases ds <;> rfl
    simpa [e] using fin
  · rename_i n m
    obtain ⟨p, rfl, h1⟩ := ra.loc
    obtain ⟨p', rfl, h2⟩ := rb.loc
    cases rx; cases ry
    cases q1 : M[n]? with
    | none => simp only [q1] at q; cases q
    | some o =>
      cases q2 : M[m]? with
      | none => simp only [q1, q2] at q; cases q
      | some o' =>
        simp only [q1, q2] at q
        split at q
        · rename_i hz
          cases q
          obtain ⟨vs, g1, g2⟩ := hm.sql h1 q1
          obtain ⟨ws, g3, g4⟩ := hm.sql h2 q2
          obtain ⟨its, r1, t1, _⟩ := I.list g1
          obtain ⟨its', r2, t2, _⟩ := I.list g3
          have hl : its.length = o.items.length := by rw [← r1.length, g2.length]
          have hl2 : its'.length = o'.items.length := by rw [← r2.length, g4.length]
          have e0 : its' = [] := by
            rw [List.isEmpty_iff] at hz
            exact List.eq_nil_of_length_eq_zero (by rw [hl2, hz]; rfl)
          subst e0
          cases e1 : o.items with
          | nil =>
            have e2 : its = [] := List.eq_nil_of_length_eq_zero (by rw [hl, e1]; rfl)
            subst e2
            refine SeqAt.RcAt.lists (e := fun _ => true) t1.isList t2.isList rfl hu0 (fun j z _ => absurd z (by simp)) _ _ _ _ ?_
            simpa [e1] using fin
          | cons d r =>
            have hne : (its.toArray.size != (#[] : Array Value).size) = true := by
              rw [List.size_toArray, hl, e1]; simp
            refine SeqAt.RcAt.lists_lengths t1.isList t2.isList hne hu0 _ _ _ _ ?_
            simpa [e1] using fin
        · cases q
  · cases q
theorem empt_ne {pins : List (Addr × Obj)} {s : Shared} {σ : L2.St} {H : Hp} {μ : Plc} {M : Mem} {a b : G.D} {x y : V} {v u : Value} {k : Bool} {Q : VK} (hu : X.A.units + 64 < cLine) (I : Inv X pins σ H s) (hm : RM X.K μ H M) (ra : Rv X.K μ H a x) (rb : Rv X.K μ H b y) (rx : RelV x v) (ry : RelV y u)
    (q : emptD a b M = some k) (h : Q (.bl (k != true)) H) : wpAny (model X.prog X.w) X.A (compareOp .NotEq v u) (EP X pins σ Q) X.xe s := by
  have hu0 : X.A.units < cLine := by omega
  have fin : EP X pins σ Q (.bool (k != true)) s := ⟨.bl _, H, I, rfl, h⟩
  unfold emptD at q
  split at q
  · rename_i ds
    obtain ⟨p, vs, rfl, h1, h2⟩ := ra.tup
    obtain ⟨p', ws, rfl, h3, h4⟩ := rb.tup
    cases rx; cases ry
    obtain rfl := h4.nil
    obtain ⟨its, r1, t1, _⟩ := I.tuple h1
    obtain ⟨its', r2, t2, _⟩ := I.tuple h3
    cases r2
    cases q
    have hl : its.length = ds.length := by rw [← r1.length, h2.length]
    refine SeqAt.RcNeAt.tuples (e := fun _ => true) t1 t2 hu0 (fun j _ z => absurd z (by simp)) _ _ _ _ ?_
    have e : (its.length == 0) = ds.isEmpty := by rw [hl]; cases ds <;> rfl
    simpa [e] using fin
  · rename_i n m
    obtain ⟨p, rfl, h1⟩ := ra.loc
    obtain ⟨p', rfl, h2⟩ := rb.loc
    cases rx; cases ry
    cases q1 : M[n]? with
    | none => simp only [q1] at q; cases q
    | some o =>
      cases q2 : M[m]? with
      | none => simp only [q1, q2] at q; cases q
      | some o' =>
        simp only [q1, q2] at q
        split at q
        · rename_i hz
          cases q
          obtain ⟨vs, g1, g2⟩ := hm.sql h1 q1
          obtain ⟨ws, g3, g4⟩ := hm.sql h2 q2
          obtain ⟨its, r1, t1, _⟩ := I.list g1
          obtain ⟨its', r2, t2, _⟩ := I.list g3
          have hl : its.length = o.items.length := by rw [← r1.length, g2.length]
          have hl2 : its'.length = o'.items.length := by rw [← r2.length, g4.length]
          have e0 : its' = [] := by
            rw [List.isEmpty_iff] at hz
            exact List.eq_nil_of_length_eq_zero (by rw [hl2, hz]; rfl)
          subst e0
          cases e1 : o.items with
          | nil =>
            have e2 : its = [] := List.eq_nil_of_length_eq_zero (by rw [hl, e1]; rfl)
            subst e2
            refine SeqAt.RcNeAt.lists (e := fun _ => true) t1.isList t2.isList rfl hu0 (fun j z _ => absurd z (by simp)) _ _ _ _ ?_
            simpa [e1] using fin
          | cons d r =>
            have hne : (its.toArray.size != (#[] : Array Value).size) = true := by
              rw [List.size_toArray, hl, e1]; simp
            refine SeqAt.RcNeAt.lists_lengths t1.isList t2.isList hne hu0 _ _ _ _ ?_
            simpa [e1] using fin
        · cases q
  · cases q
theorem og_eq (hu : X.A.units + 64 < cLine) : OpR X (compareOp .Eq) (rG ⟨X.K, ce⟩ dEq) := by
  intro pins s σ H x y v u Q I rx ry h
  obtain ⟨μ, M, a, b, hm, ra, rb, hp⟩ := h
  unfold dEq at hp
  cases q0 : strsD a b with
  | some p =>
    rw [q0] at hp
    cases a <;> cases b <;> simp only [strsD, reduceCtorEq, Option.some.injEq] at q0
    subst q0
    obtain rfl := ra.str
    obtain rfl := rb.str
    obtain ⟨t, rfl⟩ := rx
    obtain ⟨t', rfl⟩ := ry
    exact PyProof.Rows.eq_str ⟨.bl _, H, I, rfl, hp.here hm (rv_bl _)⟩
  | none =>
  rw [q0] at hp
  have em : Pst ⟨X.K, ce⟩ ET (RvR ⟨X.K, ce⟩) μ H (emptR a b false M) Q → wpAny (model X.prog X.w) X.A (compareOp .Eq v u) (EP X pins σ Q) X.xe s := fun hp => by
    unfold emptR at hp
    cases q : emptD a b M with
    | none => rw [q] at hp; exact hp.elim
    | some k =>
      rw [q] at hp
      simp only at hp
      exact empt_eq hu I hm ra rb rx ry q (hp.here hm (rv_bl _))
  cases q1 : pyD M a with
  | none => rw [q1] at hp; exact em hp
  | some d =>
    cases q2 : pyD M b with
    | none => rw [q1, q2] at hp; exact em hp
    | some e =>
      rw [q1, q2] at hp
      simp only at hp
      by_cases z : SeqAt.shaped d = true ∧ SeqAt.shaped e = true
      · simp only [z, and_self, if_true] at hp
        exact op_eqD hu pins s σ H _ _ v u Q I rx ry ⟨d, e, (pyD_dp hm ra q1).dp (SeqAt.canLay_of_shaped z.1), (pyD_dp hm rb q2).dp (SeqAt.canLay_of_shaped z.2), z.1, z.2, hp.here hm (rv_bl _)⟩
      · simp only [z, if_false] at hp; exact em hp
theorem og_ne (hu : X.A.units + 64 < cLine) : OpR X (compareOp .NotEq) (rG ⟨X.K, ce⟩ dNe) := by
  intro pins s σ H x y v u Q I rx ry h
  obtain ⟨μ, M, a, b, hm, ra, rb, hp⟩ := h
  unfold dNe at hp
  cases q0 : strsD a b with
  | some p =>
    rw [q0] at hp
    cases a <;> cases b <;> simp only [strsD, reduceCtorEq, Option.some.injEq] at q0
    subst q0
    obtain rfl := ra.str
    obtain rfl := rb.str
    obtain ⟨t, rfl⟩ := rx
    obtain ⟨t', rfl⟩ := ry
    exact PyProof.Rows.ne_str ⟨.bl _, H, I, rfl, hp.here hm (rv_bl _)⟩
  | none =>
  rw [q0] at hp
  have em : Pst ⟨X.K, ce⟩ ET (RvR ⟨X.K, ce⟩) μ H (emptR a b true M) Q → wpAny (model X.prog X.w) X.A (compareOp .NotEq v u) (EP X pins σ Q) X.xe s := fun hp => by
    unfold emptR at hp
    cases q : emptD a b M with
    | none => rw [q] at hp; exact hp.elim
    | some k =>
      rw [q] at hp
      simp only at hp
      exact empt_ne hu I hm ra rb rx ry q (hp.here hm (rv_bl _))
  cases q1 : pyD M a with
  | none => rw [q1] at hp; exact em hp
  | some d =>
    cases q2 : pyD M b with
    | none => rw [q1, q2] at hp; exact em hp
    | some e =>
      rw [q1, q2] at hp
      simp only at hp
      by_cases z : SeqAt.shaped d = true ∧ SeqAt.shaped e = true
      · simp only [z, and_self, if_true] at hp
        exact op_neD hu pins s σ H _ _ v u Q I rx ry ⟨d, e, (pyD_dp hm ra q1).dp (SeqAt.canLay_of_shaped z.1), (pyD_dp hm rb q2).dp (SeqAt.canLay_of_shaped z.2), z.1, z.2, hp.here hm (rv_bl _)⟩
      · simp only [z, if_false] at hp; exact em hp
theorem og_neg : UnR X (unaryOp .USub) (rG1 ⟨X.K, ce⟩ dNeg) := by
  intro pins s σ H x v Q I rx h
  obtain ⟨μ, M, a, hm, ra, hp⟩ := h
  cases a with
  | int i =>
    obtain rfl := ra.int
    exact un_neg pins s σ H _ v Q I rx ⟨i, rfl, hp.here hm (rv_int _)⟩
  | _ => exact hp.elim
theorem og_inv : UnR X (unaryOp .Invert) (rG1 ⟨X.K, ce⟩ dInv) := by
  intro pins s σ H x v Q I rx h
  obtain ⟨μ, M, a, hm, ra, hp⟩ := h
  cases a with
  | int i =>
    obtain rfl := ra.int
    exact un_inv pins s σ H _ v Q I rx ⟨i, rfl, hp.here hm (rv_int _)⟩
  | _ => exact hp.elim
/-- x is None -/
def dIsN (x y : D) (M : Mem) : Res D := match y with
  | .non => .ok (.bl (isNon x)) M
  | _ => .no
def dNotN (x y : D) (M : Mem) : Res D := match y with
  | .non => .ok (.bl (!isNon x)) M
  | _ => .no
theorem isNon_v {K : PySem.W.Frag} {μ : Plc} {H : Hp} {d : D} {v : V} (r : Rv K μ H d v) : decide (v = .non) = isNon d := by
  cases d with
  | non => rw [r.non]; rfl
  | bl b => rw [r.bl]; rfl
  | int b => rw [r.int]; rfl
  | str b => rw [r.str]; rfl
  | tup b => obtain ⟨_, _, e, _⟩ := r.tup; rw [e]; rfl
  | loc b => obtain ⟨_, e, _⟩ := r.loc; rw [e]; rfl
  | obj b => obtain ⟨_, e, _⟩ := r.obj; rw [e]; rfl
theorem og_isN : OpR X (compareOp .Is) (rG ⟨X.K, ce⟩ dIsN) := by
  intro pins s σ H x y v u Q I rx ry h
  obtain ⟨μ, M, a, b, hm, ra, rb, hp⟩ := h
  cases b with
  | non =>
    obtain rfl := rb.non
    refine op_isN pins s σ H _ _ v u Q I rx ry ⟨rfl, ?_⟩
    rw [isNon_v ra]
    exact hp.here hm (rv_bl _)
  | _ => exact hp.elim
theorem og_notN : OpR X (compareOp .IsNot) (rG ⟨X.K, ce⟩ dNotN) := by
  intro pins s σ H x y v u Q I rx ry h
  obtain ⟨μ, M, a, b, hm, ra, rb, hp⟩ := h
  cases b with
  | non =>
    obtain rfl := rb.non
    refine op_notN pins s σ H _ _ v u Q I rx ry ⟨rfl, ?_⟩
    rw [isNon_v ra]
    exact hp.here hm (rv_bl _)
  | _ => exact hp.elim
end
end G

/-! S4: subscripts, slices, built-in calls, methods, calls of the text's defs. -/
namespace G
open PySem L2

/-! ### a[i], a[i:j], a[::-1] -/
def dIx (x y : D) (M : Mem) : Res D := match x, y with
  | .tup ds, .int i => match atI ds i with
    | some d => .ok d M
    | none => .no
  | .loc n, .int i => match M[n]? with
    | some o => match atI o.items i with
      | some d => .ok d M
      | none => .no
    | none => .no
  | .str s, .int i => if s.length ≤ big then (match atI s.cps.toList i with
    | some c => .ok (.str ⟨#[c]⟩) M
    | none => .no) else .no
  | _, _ => .no
def cutD (ds : List D) (lo hi : Option Int) : List D := (ds.drop (HT.sIx ds.length 0 lo)).take (HT.sIx ds.length ds.length hi - HT.sIx ds.length 0 lo)
def dSl (x : D) (lo hi : Option Int) (M : Mem) : Res D := match x with
  | .tup ds => .ok (.tup (cutD ds lo hi)) M
  | .loc n => match M[n]? with
    | some o => .ok (.loc M.length) (M ++ [.lst (cutD o.items lo hi)])
    | none => .no
  | _ => .no
def dRev (x : D) (M : Mem) : Res D := match x with
  | .tup ds => .ok (.tup ds.reverse) M
  | .loc n => match M[n]? with
    | some o => .ok (.loc M.length) (M ++ [.lst o.items.reverse])
    | none => .no
  | _ => .no
abbrev LO := Env → Mem → Res (Option Int)
def oN : LO := fun _ M => .ok none M
def oS (a : LE) : LO := fun L M => (a L M).bind fun x M1 => match x with
  | .int i => .ok (some i) M1
  | _ => .no
def eSl (a : LE) (lo hi : LO) : LE := fun L M => (a L M).bind fun x M1 => (lo L M1).bind fun l M2 => (hi L M2).bind fun h M3 => dSl x l h M3
/-- what may be a key -/
def keyD : D → Option Key
  | .int i => some (.inl i)
  | .str s => some (.inr s)
  | _ => none
def putD (kvs : List (Key × D)) (k : Key) (v : D) : List (Key × D) :=
  if (kvs.any fun kv => decide (kv.1 = k)) = true then kvs.map (fun kv => if kv.1 = k then (kv.1, v) else kv) else kvs ++ [(k, v)]
def getD (kvs : List (Key × D)) (k : Key) : Option D := (kvs.find? fun kv => decide (kv.1 = k)).map (·.2)
/-- xs[i] = v -/
def dSet (o i v : D) (M : Mem) : Res Unit := match o, i with
  | .loc n, .int k => match M[n]? with
    | some (.lst ds) => match ixN ds.length k with
      | some j => .ok () (M.set n (.lst (ds.set j v)))
      | none => .no
    | _ => .no
  | .obj n, k => match M[n]?, keyD k with
    | some (.dct kvs), some q => if kvs.length < big then .ok () (M.set n (.dct (putD kvs q v))) else .no
    | _, _ => .no
  | _, _ => .no

section
variable [Tab] {X : Cx} {Γ : Gx} {ce : Nat → Addr × List Str} {W : WS} {a b e : Expr} {es : List Expr} {ma mb : LE} {ml : LA} {pos : Pos}
theorem atI_rv {K : PySem.W.Frag} {μ : Plc} {H : Hp} {ds : List D} {vs : List V} {i : Int} {d : D} (r : Rvs K μ H ds vs) (h : atI ds i = some d) : ∃ v, atI vs i = some v ∧ Rv K μ H d v := by
  unfold atI at h ⊢
  rw [r.length]
  cases q : ixN ds.length i with
  | none => rw [q] at h; cases h
  | some j =>
    rw [q] at h
    obtain ⟨v, h1, h2⟩ := r.get (i := j) h
    exact ⟨v, h1, h2⟩
theorem og_ix : IxR X (rG ⟨X.K, ce⟩ dIx) := by
  intro value slice pins s σ H x y v u Q I rx ry h hs
  obtain ⟨μ, M, a, b, hm, ra, rb, hp⟩ := h
  cases a with
  | tup ds =>
    cases b with
    | int i =>
      obtain ⟨p, vs, rfl, h1, h2⟩ := ra.tup
      obtain rfl := rb.int
      unfold dIx at hp
      cases q : atI ds i with
      | none => simp only [q] at hp; exact hp.elim
      | some d =>
        simp only [q] at hp
        obtain ⟨w, h3, h4⟩ := atI_rv h2 q
        exact ix_tup value slice pins s σ H _ _ v u Q I rx ry ⟨p, vs, i, w, rfl, rfl, h1, h3, hp.here hm h4⟩ hs
    | _ => exact hp.elim
  | loc n =>
    cases b with
    | int i =>
      obtain ⟨p, rfl, h1⟩ := ra.loc
      obtain rfl := rb.int
      unfold dIx at hp
      cases q0 : M[n]? with
      | none => simp only [q0] at hp; exact hp.elim
      | some o =>
        simp only [q0] at hp
        obtain ⟨vs, h2, h5⟩ := hm.sql h1 q0
        cases q : atI o.items i with
        | none => simp only [q] at hp; exact hp.elim
        | some d =>
          simp only [q] at hp
          obtain ⟨w, h3, h4⟩ := atI_rv h5 q
          exact ix_list value slice pins s σ H _ _ v u Q I rx ry ⟨p, vs, i, w, rfl, rfl, h2, h3, hp.here hm h4⟩ hs
    | _ => exact hp.elim
  | str z =>
    cases b with
    | int i =>
      obtain rfl := ra.str
      obtain rfl := rb.int
      unfold dIx at hp
      by_cases z1 : z.length ≤ big
      · simp only [z1, if_true] at hp
        cases q : atI z.cps.toList i with
        | none => simp only [q] at hp; exact hp.elim
        | some c =>
          simp only [q] at hp
          exact ix_str value slice pins s σ H _ _ v u Q I rx ry ⟨z, i, c, rfl, rfl, big_le z1, q, hp.here hm (rv_str _)⟩ hs
      · simp only [z1, if_false] at hp; exact hp.elim
    | _ => exact hp.elim
  | _ => exact hp.elim
theorem cut_rv {K : PySem.W.Frag} {μ : Plc} {H : Hp} {ds : List D} {vs : List V} {lo hi : Option Int} (r : Rvs K μ H ds vs) : Rvs K μ H (cutD ds lo hi) (cutV vs lo hi) := by
  unfold cutD cutV
  rw [r.length]
  exact (r.drop _).take _
theorem cut_whole {ds : List D} {lo hi : Option Int} (h : HT.sIx ds.length 0 lo = 0 ∧ HT.sIx ds.length ds.length hi = ds.length) : cutD ds lo hi = ds := by
  unfold cutD
  rw [h.1, h.2]
  simp
def rSlG (Γ : Gx) : V → Option Int → Option Int → Hp → VK → Prop := fun v lo hi H Q => ∃ μ M x, RM Γ.K μ H M ∧ Rv Γ.K μ H x v ∧ Pst Γ ET (RvR Γ) μ H (dSl x lo hi M) Q
theorem og_sl : SlR X (rSlG ⟨X.K, ce⟩) := by
  intro pins s σ H x v vl vu lo hi sl Q I rx hs pl pu h
  obtain ⟨μ, M, a, hm, ra, hp⟩ := h
  cases a with
  | tup ds =>
    obtain ⟨p, vs, rfl, h1, h2⟩ := ra.tup
    refine sl_tupA pins s σ H _ v vl vu lo hi sl Q I rx hs pl pu ⟨p, vs, rfl, h1, fun w => ?_, fun w np n0 => ?_⟩
    · unfold dSl at hp
      rw [h2.length] at w
      simp only [cut_whole w] at hp
      exact hp.here hm (rv_tup h1 h2)
    · exact Pst.newT (ds := cutD ds lo hi) hp hm (cut_rv h2) n0
  | loc n =>
    obtain ⟨p, rfl, h1⟩ := ra.loc
    unfold dSl at hp
    cases q0 : M[n]? with
    | none => simp only [q0] at hp; exact hp.elim
    | some o =>
      simp only [q0] at hp
      obtain ⟨vs, h2, h5⟩ := hm.sql h1 q0
      exact sl_list pins s σ H _ v vl vu lo hi sl Q I rx hs pl pu ⟨p, vs, rfl, h2, fun np n0 => hp.newL hm (cut_rv h5) n0⟩
  | _ => exact hp.elim
def tGO (Γ : Gx) (W : WS) (m : LO) : TO := fun σ H Q => ∃ μ L M, Rs Γ.K μ H L σ ∧ RM Γ.K μ H M ∧ Pst Γ (W σ) (fun _ _ a b => a = b) μ H (m L M) Q
theorem po_imp {X : Cx} {e : Option Expr} {t t' : TO} (h : PO X e t) (k : ∀ σ H Q, t' σ H Q → t σ H Q) : PO X e t' := ⟨fun pins s σ H Q I q => h.run pins s σ H Q I (k σ H Q q)⟩
theorem pom_none : PO X none (tGO Γ W oN) := po_imp po_none fun _ _ _ ⟨_, _, _, _, hm, hp⟩ => hp.here hm rfl
theorem pom_some (h : PE X e (tG Γ W ma)) : PO X (some e) (tGO Γ W (oS ma)) := po_imp (po_some h) fun _ _ _ h => by
  obtain ⟨μ, L, M, hs, hm, hp⟩ := h
  refine ⟨μ, L, M, hs, hm, hp.bind fun x M1 μ1 v H1 _ e1 t1 m1 r1 hp1 => ?_⟩
  cases x with
  | int i => exact ⟨i, r1.int, hp1.here m1 rfl⟩
  | _ => exact hp1.elim
theorem pm_slice {lo hi : Option Expr} {ol oh : LO} {p2 : Pos} (he : PE X e (tG ⟨X.K, ce⟩ W ma)) (hl : PO X lo (tGO ⟨X.K, ce⟩ W ol)) (hu : PO X hi (tGO ⟨X.K, ce⟩ W oh)) : PE X (.Subscript e (.Slice lo hi none p2) pos) (tG ⟨X.K, ce⟩ W (eSl ma ol oh)) :=
  pe_imp (pe_slice og_sl he hl hu) fun _ _ _ h => by
    obtain ⟨μ, L, M, hs, hm, hp⟩ := h
    refine ⟨μ, L, M, hs, hm, hp.bind fun x M1 μ1 v H1 _ e1 t1 m1 r1 hp1 => ?_⟩
    refine ⟨μ1, L, M1, hs.mono e1 t1, m1, hp1.bind fun l M2 μ2 l' H2 _ e2 t2 m2 r2 hp2 => ?_⟩
    obtain rfl : l = l' := r2
    refine ⟨μ2, L, M2, hs.mono (e1.trans e2) (t1.trans t2), m2, hp2.bind fun u M3 μ3 u' H3 _ e3 t3 m3 r3 hp3 => ?_⟩
    obtain rfl : u = u' := r3
    exact ⟨μ3, M3, x, m3, r1.mono (e2.trans e3) (t2.trans t3), hp3.loose⟩
theorem pm_revL {k : Nat} {p1 p2 p3 : Pos} (he : PE X e (tG ⟨X.K, ce⟩ W ma)) : PE X (.Subscript e (.Slice none none (some (.UnaryOp .USub (.Constant (.int 1) k p1) p2)) p3) pos) (tG ⟨X.K, ce⟩ W (eU dRev ma)) :=
  pe_imp (pe_revA he) fun _ _ _ h => by
    obtain ⟨μ, L, M, hs, hm, hp⟩ := h
    refine ⟨μ, L, M, hs, hm, hp.bind fun x M1 μ1 v H1 _ e1 t1 m1 r1 hp1 => ?_⟩
    cases x with
    | tup ds =>
      obtain ⟨p, vs, rfl, h1, h2⟩ := r1.tup
      exact ⟨p, vs, rfl, .inr ⟨h1, fun np n0 => hp1.newT m1 h2.reverse n0⟩⟩
    | loc n =>
      obtain ⟨p, rfl, h1⟩ := r1.loc
      unfold dRev at hp1
      cases q0 : M1[n]? with
      | none => simp only [q0] at hp1; exact hp1.elim
      | some o =>
        simp only [q0] at hp1
        obtain ⟨vs, h2, h5⟩ := m1.sql h1 q0
        exact ⟨p, vs, rfl, .inl ⟨h2, fun np n0 => hp1.newL m1 h5.reverse n0⟩⟩
    | _ => exact hp1.elim

/-! ### built-in functions by name -/
theorem pm_cb {x : Str} {id : String} {p : Pos} {f : List D → Mem → Res D} (hc : CallR X (.builtin id) (rGs Γ f)) (hg : Gl X x) (hm : X.mg x = none) (hv : bootBuiltins x = some (.builtin id)) (ha : PA X (e :: es) (tGA Γ W ml)) (hn : x ≠ "__name__" := by decide) (hdb : (x == ("__debug__" : Str)) = false := by decide)
    (he : starEach (e :: es) X.env = (false, eval e X.env) :: starEach es X.env := by rfl) (hpl : (backTo pos (starEach es X.env)).any (·.1) = false := by rfl) : PE X (.Call (.Name x p) (e :: es) [] pos) (tG Γ W (eF f ml)) :=
  pe_imp (pe_callB hc hg hm hv ha hn hdb he hpl) fun _ _ _ h => by
    obtain ⟨μ, L, M, hs, hm, hp⟩ := h
    refine ⟨μ, L, M, hs, hm, hp.bind fun xs M1 μ1 vs H1 _ e1 t1 m1 r1 hp1 => ?_⟩
    exact ⟨μ1, M1, xs, m1, r1, hp1.loose⟩
theorem pm_ct {x : Str} {T : String} {p : Pos} {f : List D → Mem → Res D} (hc : CallR X (.type T) (rGs Γ f)) (hg : Gl X x) (hm : X.mg x = none) (hv : bootBuiltins x = some (.type T)) (ha : PA X (e :: es) (tGA Γ W ml)) (hn : x ≠ "__name__" := by decide) (hdb : (x == ("__debug__" : Str)) = false := by decide)
    (he : starEach (e :: es) X.env = (false, eval e X.env) :: starEach es X.env := by rfl) (hpl : (backTo pos (starEach es X.env)).any (·.1) = false := by rfl) : PE X (.Call (.Name x p) (e :: es) [] pos) (tG Γ W (eF f ml)) :=
  pe_imp (pe_callTy hc hg hm hv ha hn hdb he hpl) fun _ _ _ h => by
    obtain ⟨μ, L, M, hs, hm, hp⟩ := h
    refine ⟨μ, L, M, hs, hm, hp.bind fun xs M1 μ1 vs H1 _ e1 t1 m1 r1 hp1 => ?_⟩
    exact ⟨μ1, M1, xs, m1, r1, hp1.loose⟩
end

/-! ### what the built-ins do -/
def itemsD (x : D) (M : Mem) : Option (List D) := match x with
  | .tup ds => some ds
  | .loc n => match M[n]? with
    | some o => some o.items
    | none => none
  | _ => none
def bLen (xs : List D) (M : Mem) : Res D := match xs with
  | [.str s] => if s.length ≤ big then .ok (.int s.length) M else .no
  | [x] => match itemsD x M with
    | some ds => .ok (.int ds.length) M
    | none => .no
  | _ => .no
def bMax (xs : List D) (M : Mem) : Res D := match xs with
  | [.int i, .int j] => .ok (.int (if j > i then j else i)) M
  | _ => .no
def bMin (xs : List D) (M : Mem) : Res D := match xs with
  | [.int i, .int j] => .ok (.int (if j < i then j else i)) M
  | _ => .no
def bList (xs : List D) (M : Mem) : Res D := match xs with
  | [x] => match itemsD x M with
    | some ds => .ok (.loc M.length) (M ++ [.lst ds])
    | none => .no
  | _ => .no
def bTuple (xs : List D) (M : Mem) : Res D := match xs with
  | [x] => match itemsD x M with
    | some ds => .ok (.tup ds) M
    | none => .no
  | _ => .no
def asBs : List D → Option (List Bool)
  | [] => some []
  | .bl b :: r => (asBs r).map (b :: ·)
  | _ => none
def asIs : List D → Option (List Int)
  | [] => some []
  | .int b :: r => (asIs r).map (b :: ·)
  | _ => none
def locD (x : D) (M : Mem) : Option (List D) := match x with
  | .loc n => match M[n]? with
    | some o => some o.items
    | none => none
  | _ => none
def bAll (xs : List D) (M : Mem) : Res D := match xs with
  | [x] => match (locD x M).bind asBs with
    | some bs => .ok (.bl (bs.all id)) M
    | none => .no
  | _ => .no
def bAny (xs : List D) (M : Mem) : Res D := match xs with
  | [x] => match (locD x M).bind asBs with
    | some bs => .ok (.bl (bs.any id)) M
    | none => .no
  | _ => .no
def bSum (xs : List D) (M : Mem) : Res D := match xs with
  | [x] => match (locD x M).bind asIs with
    | some ns => .ok (.int ns.sum) M
    | none => .no
  | _ => .no
def bInt (xs : List D) (M : Mem) : Res D := match xs with
  | [.int i] => .ok (.int i) M
  | [.bl k] => .ok (.int (if k then 1 else 0)) M
  | _ => .no
/-- str of an int, a bool, a text -/
def bStr (xs : List D) (M : Mem) : Res D := match xs with
  | [.int i] => if i.natAbs.log2 < 1920 then .ok (.str (toString i)) M else .no
  | [.bl b] => .ok (.str (if b then "True" else "False")) M
  | [.str s] => .ok (.str s) M
  | _ => .no
/-- a value's built-in type -/
def tyD : D → Mem → Option String
  | .non, _ => some "NoneType"
  | .bl _, _ => some "bool"
  | .int _, _ => some "int"
  | .str _, _ => some "str"
  | .tup _, _ => some "tuple"
  | .loc n, M => match M[n]? with
    | some (.lst _) => some "list"
    | _ => none
  | .obj n, M => match M[n]? with
    | some (.dct _) => some "dict"
    | _ => none
/-- isinstance(x, T), T a built-in type -/
def bIsi (T : String) (xs : List D) (M : Mem) : Res D := match xs with
  | [x] => match tyD x M with
    | some t => .ok (.bl (t == T || (t == "bool" && T == "int"))) M
    | none => .no
  | _ => .no

section
variable [Tab] {X : Cx} {Γ : Gx} {ce : Nat → Addr × List Str} {W : WS}
theorem items_sq {K : PySem.W.Frag} {μ : Plc} {H : Hp} {M : Mem} {x : D} {v : V} {ds : List D} (m : RM K μ H M) (r : Rv K μ H x v) (h : itemsD x M = some ds) : ∃ p vs, v = .ref p ∧ (SqL K H p vs ∨ SqT K H p vs) ∧ Rvs K μ H ds vs := by
  cases x with
  | tup es =>
    obtain ⟨p, vs, rfl, h1, h2⟩ := r.tup
    cases h
    exact ⟨p, vs, rfl, .inr h1, h2⟩
  | loc n =>
    obtain ⟨p, rfl, h1⟩ := r.loc
    unfold itemsD at h
    cases q : M[n]? with
    | none => simp only [q] at h; cases h
    | some o =>
      simp only [q] at h; cases h
      obtain ⟨vs, h2, h3⟩ := m.sql h1 q
      exact ⟨p, vs, rfl, .inl h2, h3⟩
  | _ => cases h
theorem loc_sq {K : PySem.W.Frag} {μ : Plc} {H : Hp} {M : Mem} {x : D} {v : V} {ds : List D} (m : RM K μ H M) (r : Rv K μ H x v) (h : locD x M = some ds) : ∃ p vs, v = .ref p ∧ SqL K H p vs ∧ Rvs K μ H ds vs := by
  cases x with
  | loc n =>
    obtain ⟨p, rfl, h1⟩ := r.loc
    unfold locD at h
    cases q : M[n]? with
    | none => simp only [q] at h; cases h
    | some o =>
      simp only [q] at h; cases h
      obtain ⟨vs, h2, h3⟩ := m.sql h1 q
      exact ⟨p, vs, rfl, h2, h3⟩
  | _ => cases h
theorem cg_len : CallR X (.builtin "len") (rGs ⟨X.K, ce⟩ bLen) := by
  intro pins s σ H xs us Q I r h
  obtain ⟨μ, M, ds, hm, rd, hp⟩ := h
  cases ds with
  | nil => exact hp.elim
  | cons x t =>
    cases t with
    | cons _ _ => cases x <;> exact hp.elim
    | nil =>
      obtain ⟨v, rfl, rv⟩ := rd.one
      have seq : ∀ ds, itemsD x M = some ds → Pst ⟨X.K, ce⟩ ET (RvR ⟨X.K, ce⟩) μ H (.ok (.int ds.length) M) Q → wpAny (model X.prog X.w) X.A (call (.builtin "len") us) (EP X pins σ Q) X.xe s := fun ds e hq => by
        obtain ⟨p, vs, rfl, h1, h2⟩ := items_sq hm rv e
        exact call_len_seq pins s σ H _ us Q I r ⟨p, vs, rfl, h1, by rw [h2.length]; exact hq.here hm (rv_int _)⟩
      cases x with
      | str z =>
        obtain rfl := rv.str
        unfold bLen at hp
        by_cases q : z.length ≤ big
        · simp only [q, if_true] at hp
          exact call_len_str pins s σ H _ us Q I r ⟨z, rfl, big_le q, hp.here hm (rv_int _)⟩
        · simp only [q, if_false] at hp; exact hp.elim
      | tup es => exact seq es rfl hp
      | loc n =>
        unfold bLen at hp
        cases q : itemsD (.loc n) M with
        | none => simp only [q] at hp; exact hp.elim
        | some ds => simp only [q] at hp; exact seq ds q hp
      | _ => exact hp.elim
theorem two_int {K : PySem.W.Frag} {μ : Plc} {H : Hp} {i j : Int} {vs : List V} (r : Rvs K μ H [.int i, .int j] vs) : vs = [.int i, .int j] := by
  obtain ⟨v, t, rfl, h1, h2⟩ := r.uncons
  obtain ⟨w, rfl, h3⟩ := h2.one
  rw [h1.int, h3.int]
theorem cg_max (hc : X.calm = true := by rfl) : CallR X (.builtin "max") (rGs ⟨X.K, ce⟩ bMax) := by
  intro pins s σ H xs us Q I r h
  obtain ⟨μ, M, ds, hm, rd, hp⟩ := h
  unfold bMax at hp
  split at hp
  · rename_i i j
    obtain rfl := two_int rd
    exact call_max2 hc pins s σ H _ us Q I r ⟨i, j, rfl, hp.here hm (rv_int _)⟩
  · exact hp.elim
theorem cg_min (hc : X.calm = true := by rfl) : CallR X (.builtin "min") (rGs ⟨X.K, ce⟩ bMin) := by
  intro pins s σ H xs us Q I r h
  obtain ⟨μ, M, ds, hm, rd, hp⟩ := h
  unfold bMin at hp
  split at hp
  · rename_i i j
    obtain rfl := two_int rd
    exact call_min2 hc pins s σ H _ us Q I r ⟨i, j, rfl, hp.here hm (rv_int _)⟩
  · exact hp.elim
theorem cg_list : CallR X (.type "list") (rGs ⟨X.K, ce⟩ bList) := by
  intro pins s σ H xs us Q I r h
  obtain ⟨μ, M, ds, hm, rd, hp⟩ := h
  unfold bList at hp
  split at hp
  · rename_i x
    obtain ⟨v, rfl, rv⟩ := rd.one
    cases q : itemsD x M with
    | none => simp only [q] at hp; exact hp.elim
    | some es =>
      simp only [q] at hp
      obtain ⟨p, vs, rfl, h1, h2⟩ := items_sq hm rv q
      exact call_list_of pins s σ H _ us Q I r ⟨p, vs, rfl, h1, fun np n0 => hp.newL hm h2 n0⟩
  · exact hp.elim
theorem cg_tuple : CallR X (.type "tuple") (rGs ⟨X.K, ce⟩ bTuple) := by
  intro pins s σ H xs us Q I r h
  obtain ⟨μ, M, ds, hm, rd, hp⟩ := h
  unfold bTuple at hp
  split at hp
  · rename_i x
    obtain ⟨v, rfl, rv⟩ := rd.one
    cases q : itemsD x M with
    | none => simp only [q] at hp; exact hp.elim
    | some es =>
      simp only [q] at hp
      obtain ⟨p, vs, rfl, h1, h2⟩ := items_sq hm rv q
      refine call_tuple_of pins s σ H _ us Q I r ⟨p, vs, rfl, ?_⟩
      rcases h1 with h1 | h1
      · exact .inl ⟨h1, fun np n0 => hp.newT hm h2 n0⟩
      · exact .inr ⟨h1, hp.here hm (rv_tup h1 h2)⟩
  · exact hp.elim
theorem asBs_v {K : PySem.W.Frag} {μ : Plc} {H : Hp} : ∀ {ds : List D} {bs : List Bool} {vs : List V}, Rvs K μ H ds vs → asBs ds = some bs → vs = bs.map V.bl
  | [], _, _, r, e => by cases e; exact r.nil
  | d :: ds, _, _, r, e => by
    obtain ⟨v, t, rfl, h1, h2⟩ := r.uncons
    cases d with
    | bl b =>
      unfold asBs at e
      cases q : asBs ds with
      | none => rw [q] at e; cases e
      | some cs =>
        rw [q] at e; cases e
        rw [h1.bl, asBs_v h2 q]; rfl
    | _ => cases e
theorem asIs_v {K : PySem.W.Frag} {μ : Plc} {H : Hp} : ∀ {ds : List D} {bs : List Int} {vs : List V}, Rvs K μ H ds vs → asIs ds = some bs → vs = bs.map V.int
  | [], _, _, r, e => by cases e; exact r.nil
  | d :: ds, _, _, r, e => by
    obtain ⟨v, t, rfl, h1, h2⟩ := r.uncons
    cases d with
    | int b =>
      unfold asIs at e
      cases q : asIs ds with
      | none => rw [q] at e; cases e
      | some cs =>
        rw [q] at e; cases e
        rw [h1.int, asIs_v h2 q]; rfl
    | _ => cases e
theorem cg_all (hc : X.calm = true := by rfl) : CallR X (.builtin "all") (rGs ⟨X.K, ce⟩ bAll) := by
  intro pins s σ H xs us Q I r h
  obtain ⟨μ, M, ds, hm, rd, hp⟩ := h
  unfold bAll at hp
  split at hp
  · rename_i x
    obtain ⟨v, rfl, rv⟩ := rd.one
    cases q : locD x M with
    | none => simp only [q, Option.bind_none] at hp; exact hp.elim
    | some es =>
      simp only [q, Option.bind_some] at hp
      cases q2 : asBs es with
      | none => simp only [q2] at hp; exact hp.elim
      | some bs =>
        simp only [q2] at hp
        obtain ⟨p, vs, rfl, h1, h2⟩ := loc_sq hm rv q
        obtain rfl := asBs_v h2 q2
        exact cr_all hc pins s σ H _ us Q I r ⟨p, bs, rfl, h1, hp.here hm (rv_bl _)⟩
  · exact hp.elim
theorem cg_any (hc : X.calm = true := by rfl) : CallR X (.builtin "any") (rGs ⟨X.K, ce⟩ bAny) := by
  intro pins s σ H xs us Q I r h
  obtain ⟨μ, M, ds, hm, rd, hp⟩ := h
  unfold bAny at hp
  split at hp
  · rename_i x
    obtain ⟨v, rfl, rv⟩ := rd.one
    cases q : locD x M with
    | none => simp only [q, Option.bind_none] at hp; exact hp.elim
    | some es =>
      simp only [q, Option.bind_some] at hp
      cases q2 : asBs es with
      | none => simp only [q2] at hp; exact hp.elim
      | some bs =>
        simp only [q2] at hp
        obtain ⟨p, vs, rfl, h1, h2⟩ := loc_sq hm rv q
        obtain rfl := asBs_v h2 q2
        exact cr_any hc pins s σ H _ us Q I r ⟨p, bs, rfl, h1, hp.here hm (rv_bl _)⟩
  · exact hp.elim
theorem cg_sum (hc : X.calm = true := by rfl) : CallR X (.builtin "sum") (rGs ⟨X.K, ce⟩ bSum) := by
  intro pins s σ H xs us Q I r h
  obtain ⟨μ, M, ds, hm, rd, hp⟩ := h
  unfold bSum at hp
  split at hp
  · rename_i x
    obtain ⟨v, rfl, rv⟩ := rd.one
    cases q : locD x M with
    | none => simp only [q, Option.bind_none] at hp; exact hp.elim
    | some es =>
      simp only [q, Option.bind_some] at hp
      cases q2 : asIs es with
      | none => simp only [q2] at hp; exact hp.elim
      | some bs =>
        simp only [q2] at hp
        obtain ⟨p, vs, rfl, h1, h2⟩ := loc_sq hm rv q
        obtain rfl := asIs_v h2 q2
        exact cr_sum hc pins s σ H _ us Q I r ⟨p, bs, rfl, h1, hp.here hm (rv_int _)⟩
  · exact hp.elim
theorem cg_int : CallR X (.type "int") (rGs ⟨X.K, ce⟩ bInt) := by
  intro pins s σ H xs us Q I r h
  obtain ⟨μ, M, ds, hm, rd, hp⟩ := h
  unfold bInt at hp
  split at hp
  · rename_i i
    obtain ⟨v, rfl, rv⟩ := rd.one
    obtain rfl := rv.int
    exact call_int1 pins s σ H _ us Q I r (.inl ⟨i, rfl, hp.here hm (rv_int _)⟩)
  · rename_i i
    obtain ⟨v, rfl, rv⟩ := rd.one
    obtain rfl := rv.bl
    exact call_int1 pins s σ H _ us Q I r (.inr ⟨i, rfl, hp.here hm (rv_int _)⟩)
  · exact hp.elim
theorem cg_str : CallR X (.type "str") (rGs ⟨X.K, ce⟩ bStr) := by
  intro pins s σ H xs us Q I r h
  obtain ⟨μ, M, ds, hm, rd, hp⟩ := h
  unfold bStr at hp
  split at hp
  · rename_i i
    obtain ⟨v, rfl, rv⟩ := rd.one
    obtain rfl := rv.int
    by_cases z : i.natAbs.log2 < 1920
    · simp only [z, if_true] at hp
      exact call_str_int pins s σ H _ us Q I r ⟨i, rfl, z, hp.here hm (rv_str _)⟩
    · simp only [z, if_false] at hp; exact hp.elim
  · rename_i b
    obtain ⟨v, rfl, rv⟩ := rd.one
    obtain rfl := rv.bl
    cases r with
    | cons r1 r2 =>
      cases r1; cases r2
      exact PySem.P.str_of_bool ⟨.str _, H, I.tok _, ⟨_, rfl⟩, hp.here hm (rv_str _)⟩
  · rename_i z
    obtain ⟨v, rfl, rv⟩ := rd.one
    obtain rfl := rv.str
    exact SkE.call_str_str pins s σ H _ us Q I r ⟨z, rfl, hp.here hm (rv_str _)⟩
  · exact hp.elim
theorem tyD_x {K : PySem.W.Frag} {μ : Plc} {H : Hp} {M : Mem} {x : D} {v : V} {t : String} (m : RM K μ H M) (r : Rv K μ H x v) (h : tyD x M = some t) : TyX K H v (.type t) := by
  cases x with
  | non => cases h; rw [r.non]; exact .base .non
  | bl b => cases h; rw [r.bl]; exact .base (.bl b)
  | int i => cases h; rw [r.int]; exact .base (.int i)
  | str z => cases h; rw [r.str]; exact .base (.str z)
  | tup ds =>
    cases h
    obtain ⟨p, vs, rfl, h1, _⟩ := r.tup
    rcases h1 with (h1 | ⟨o, h1⟩) | ⟨o, its, n, h1, h2, _⟩
    · exact .base (.tup h1)
    · exact .fTuple h1
    · exact .kTuple h1 h2
  | loc n =>
    obtain ⟨p, rfl, h1⟩ := r.loc
    unfold tyD at h
    cases q : M[n]? with
    | none => simp only [q] at h; cases h
    | some o =>
      cases o with
      | lst ds =>
        simp only [q] at h; cases h
        obtain ⟨vs, h2, _⟩ := m.lst h1 q
        exact .base (.lst h2)
      | rol ds => simp only [q] at h; cases h
      | dct ds => simp only [q] at h; cases h
      | dtn _ => simp only [q] at h; cases h
      | ins _ _ => simp only [q] at h; cases h
  | obj n =>
    obtain ⟨p, rfl, h1⟩ := r.obj
    unfold tyD at h
    cases q : M[n]? with
    | none => simp only [q] at h; cases h
    | some o =>
      cases o with
      | lst ds => simp only [q] at h; cases h
      | rol ds => simp only [q] at h; cases h
      | dtn _ => simp only [q] at h; cases h
      | ins _ _ => simp only [q] at h; cases h
      | dct ds =>
        simp only [q] at h; cases h
        obtain ⟨ws, h2, _⟩ := m.dct h1 q
        exact .base (.dK h2)
/-- isinstance(x, T): kt decides the few built-in types -/
theorem cg_isi {T : String} {x : Str} {p2 p3 pos : Pos} {e : Expr} {ma : LE} (kt : ∀ t ∈ ["NoneType", "bool", "int", "str", "tuple", "list", "dict"], kitB t T = some (t == T || (t == "bool" && T == "int")))
    (he : PE X e (tG ⟨X.K, ce⟩ W ma)) (hg : Gl X "isinstance") (hm : X.mg "isinstance" = none) (hg2 : Gl X x) (hm2 : X.mg x = none) (hv2 : bootBuiltins x = some (.type T)) (hn2 : x ≠ "__name__" := by decide) (hdb2 : (x == ("__debug__" : Str)) = false := by decide)
    (hs1 : starEach [e, .Name x p3] X.env = (false, eval e X.env) :: starEach [.Name x p3] X.env := by rfl) (hs2 : starEach [.Name x p3] X.env = (false, eval (.Name x p3) X.env) :: starEach [] X.env := by rfl)
    (hpl : (backTo pos (starEach [.Name x p3] X.env)).any (·.1) = false := by rfl) :
    PE X (.Call (.Name "isinstance" p2) [e, .Name x p3] [] pos) (tG ⟨X.K, ce⟩ W (eF (bIsi T) (aC ma aN))) :=
  pe_imp (pe_callB (r := rIsi X.K) call_isi hg hm (by decide +kernel) (pa_cons he (pa_cons (pe_bltn (v := .ty T) hg2 hm2 hv2 rfl hn2 hdb2) pa_nil hs2) hs1) (he := hs1) (hpl := hpl)) fun σ _ Q h => by
    obtain ⟨μ, L, M, hs, hm, hp⟩ := h
    unfold eF aC aN at hp
    simp only [Res.bind] at hp
    cases q : ma L M with
    | no => rw [q] at hp; exact hp.elim
    | ex e2 M' => refine ⟨μ, L, M, hs, hm, ?_⟩; rw [q] at hp ⊢; exact hp
    | ok z M1 =>
      rw [q] at hp
      refine ⟨μ, L, M, hs, hm, ?_⟩
      rw [q]
      intro μ1 v H1 e1 t1 m1 r1
      simp only [bIsi] at hp
      cases q2 : tyD z M1 with
      | none => simp only [q2] at hp; exact hp.elim
      | some t =>
        simp only [q2] at hp
        refine ⟨v, .ty T, .type t, .type T, _, rfl, .ty T, tyD_x m1 r1 q2, kit_ty (kt t ?_), ?_⟩
        · cases z <;> first
            | (cases q2; decide)
            | (unfold tyD at q2; rename_i n; cases q3 : M1[n]? with
               | none => simp only [q3] at q2; cases q2
               | some o => cases o <;> first | (simp only [q3] at q2; cases q2; decide) | (simp only [q3] at q2; cases q2))
        · exact hp μ1 _ _ e1 t1 m1 (rv_bl _)
end
/-! ### dicts -/
section
variable [Tab] {X : Cx} {ce : Nat → Addr × List Str} {K : PySem.W.Frag} {μ : Plc} {H : Hp}
def Rk (K : PySem.W.Frag) (μ : Plc) (H : Hp) (kvs : List (Key × D)) (ws : List (Key × V)) : Prop := ws.map (·.1) = kvs.map (·.1) ∧ Rvs K μ H (kvs.map (·.2)) (ws.map (·.2))
theorem Rk.len {kvs : List (Key × D)} {ws : List (Key × V)} (r : Rk K μ H kvs ws) : ws.length = kvs.length := by
  have := congrArg List.length r.1
  simpa using this
theorem Rk.uncons {kv : Key × D} {kvs : List (Key × D)} {ws : List (Key × V)} (r : Rk K μ H (kv :: kvs) ws) : ∃ v t, ws = (kv.1, v) :: t ∧ Rv K μ H kv.2 v ∧ Rk K μ H kvs t := by
  cases ws with
  | nil => exact absurd r.1 (by simp)
  | cons w t =>
    obtain ⟨a, b⟩ := r
    simp only [List.map_cons, List.cons.injEq] at a b
    obtain ⟨v, q, e, h1, h2⟩ := b.uncons
    simp only [List.cons.injEq] at e
    refine ⟨w.2, t, ?_, by rw [e.1]; exact h1, a.2, by rw [e.2]; exact h2⟩
    rw [← a.1]
theorem Rk.nil : Rk K μ H [] [] := ⟨rfl, rvs_nil⟩
theorem Rk.cons {k : Key} {d : D} {v : V} {kvs : List (Key × D)} {ws : List (Key × V)} (h : Rv K μ H d v) (r : Rk K μ H kvs ws) : Rk K μ H ((k, d) :: kvs) ((k, v) :: ws) := ⟨by simp [r.1], rvs_cons h r.2⟩
theorem Rk.any {k : Key} : ∀ {kvs : List (Key × D)} {ws : List (Key × V)}, Rk K μ H kvs ws → (ws.any fun kv => decide (kv.1 = k)) = kvs.any fun kv => decide (kv.1 = k)
  | [], ws, r => by
    obtain rfl : ws = [] := List.eq_nil_of_length_eq_zero (by have := r.len; simpa using this)
    rfl
  | kv :: kvs, _, r => by
    obtain ⟨v, t, rfl, _, h2⟩ := r.uncons
    rw [List.any_cons, List.any_cons, Rk.any h2]
theorem Rk.putMap {k : Key} {d : D} {v : V} (h : Rv K μ H d v) : ∀ {kvs : List (Key × D)} {ws : List (Key × V)}, Rk K μ H kvs ws → Rk K μ H (kvs.map fun kv => if kv.1 = k then (kv.1, d) else kv) (ws.map fun kv => if kv.1 = k then (kv.1, v) else kv)
  | [], ws, r => by
    obtain rfl : ws = [] := List.eq_nil_of_length_eq_zero (by have := r.len; simpa using this)
    exact Rk.nil
  | kv :: kvs, _, r => by
    obtain ⟨w, t, rfl, h1, h2⟩ := r.uncons
    rw [List.map_cons, List.map_cons]
    by_cases q : kv.1 = k
    · simp only [q, if_true]
      exact Rk.cons h (Rk.putMap h h2)
    · simp only [q, if_false]
      exact Rk.cons h1 (Rk.putMap h h2)
theorem Rk.append {kvs lvs : List (Key × D)} {ws us : List (Key × V)} (r : Rk K μ H kvs ws) (q : Rk K μ H lvs us) : Rk K μ H (kvs ++ lvs) (ws ++ us) :=
  ⟨by rw [List.map_append, List.map_append, r.1, q.1], by rw [List.map_append, List.map_append]; exact r.2.append q.2⟩
theorem Rk.put {k : Key} {d : D} {v : V} {kvs : List (Key × D)} {ws : List (Key × V)} (r : Rk K μ H kvs ws) (h : Rv K μ H d v) : Rk K μ H (putD kvs k d) (putK ws k v) := by
  unfold putD putK
  rw [r.any]
  split
  · exact r.putMap h
  · exact r.append (Rk.cons h Rk.nil)
theorem Rk.mono {μ' : Plc} {H' : Hp} {kvs : List (Key × D)} {ws : List (Key × V)} (e : Ext μ μ') (t : Tk K H H') (r : Rk K μ H kvs ws) : Rk K μ' H' kvs ws := ⟨r.1, r.2.mono e t⟩
theorem keyD_v {d : D} {k : Key} {v : V} (r : Rv K μ H d v) (h : keyD d = some k) : v = kV k := by
  cases d with
  | int i => cases h; rw [r.int]; rfl
  | str s => cases h; rw [r.str]; rfl
  | _ => cases h
/-- o[i] = v, lists and dicts -/
def rSetG (Γ : Gx) : TSet := fun o i v H Q => ∃ μ M x y z, RM Γ.K μ H M ∧ Rv Γ.K μ H x o ∧ Rv Γ.K μ H y i ∧ Rv Γ.K μ H z v ∧ Pst Γ ET (fun _ _ (_ : Unit) (_ : Unit) => True) μ H (dSet x y z M) (fun _ H' => Q H')
theorem set_G (hu : X.A.units + 64 < cLine) : PSet X (rSetG ⟨X.K, ce⟩) := by
  intro pins s σ H o i v ov iv u Q I ro ri rv h
  obtain ⟨μ, M, y, z, x, hm, r2, r3, r1, hp⟩ := h
  cases y with
  | loc n =>
    cases z with
    | int k =>
      obtain ⟨p, rfl, h1⟩ := r2.loc
      obtain rfl := r3.int
      unfold dSet at hp
      cases q : M[n]? with
      | none => simp only [q] at hp; exact hp.elim
      | some oo =>
        cases oo with
        | rol ds => simp only [q] at hp; exact hp.elim
        | dct ds => simp only [q] at hp; exact hp.elim
        | dtn _ => simp only [q] at hp; exact hp.elim
        | ins _ _ => simp only [q] at hp; exact hp.elim
        | lst ds =>
          simp only [q] at hp
          obtain ⟨vs, h2, h3⟩ := hm.lst h1 q
          cases q2 : ixN ds.length k with
          | none => simp only [q2] at hp; exact hp.elim
          | some j =>
            simp only [q2] at hp
            exact set_list pins s σ H _ _ v ov iv u Q I ro ri rv ⟨p, vs, k, j, rfl, rfl, h2, by rw [h3.length]; exact q2, Pst.set (y := ()) hp hm h1 q (h3.set r1 j) trivial⟩
    | _ => exact hp.elim
  | obj n =>
    obtain ⟨p, rfl, h1⟩ := r2.obj
    have hp' : Pst ⟨X.K, ce⟩ ET (fun _ _ (_ : Unit) (_ : Unit) => True) μ H (match M[n]?, keyD z with
      | some (.dct kvs), some q => if kvs.length < big then .ok () (M.set n (.dct (putD kvs q x))) else .no
      | _, _ => .no) (fun _ H' => Q H') := by cases z <;> exact hp
    cases q : M[n]? with
    | none => simp only [q] at hp'; exact hp'.elim
    | some oo =>
      cases oo with
      | rol ds => simp only [q] at hp'; exact hp'.elim
      | lst ds => simp only [q] at hp'; exact hp'.elim
      | dtn _ => simp only [q] at hp'; exact hp'.elim
      | ins _ _ => simp only [q] at hp'; exact hp'.elim
      | dct kvs =>
        cases q2 : keyD z with
        | none => simp only [q, q2] at hp'; exact hp'.elim
        | some k =>
          simp only [q, q2] at hp'
          obtain ⟨ws, h2, h3, h4⟩ := hm.dct h1 q
          obtain rfl := keyD_v r3 q2
          have rk : Rk X.K μ H kvs ws := ⟨h3, h4⟩
          by_cases z' : kvs.length < big
          · simp only [z', if_true] at hp'
            have t : Tk X.K H (upd H p (.dK (putK ws k v))) := Tk.dct h2
            have rk2 := (rk.put (k := k) r1).mono (Ext.refl μ) t
            refine set_dict (by omega) pins s σ H _ _ v ov iv u Q I ro ri rv ⟨p, _, rfl, DPut.k h2 (by rw [rk.len]; exact big_lt z'), ?_⟩
            exact hp' μ () _ (Ext.refl _) t (hm.setO h1 q rfl rfl t ⟨_, upd_same, rk2.1, rk2.2⟩) trivial
          · simp only [z', if_false] at hp'; exact hp'.elim
  | _ => exact hp.elim
/-! {k: v, ..} -/
def dpL : List (LE × LE) → Env → Mem → Res (List (D × D))
  | [], _, M => .ok [] M
  | (k, v) :: r, L, M => (k L M).bind fun x M1 => (v L M1).bind fun y M2 => (dpL r L M2).bind fun ps M3 => .ok ((x, y) :: ps) M3
def keysD : List (D × D) → Option (List (Key × D))
  | [] => some []
  | (x, y) :: r => match keyD x, keysD r with
    | some k, some kvs => some ((k, y) :: kvs)
    | _, _ => none
def mergeD (kvs more : List (Key × D)) : List (Key × D) := more.foldl (fun acc kv => putD acc kv.1 kv.2) kvs
def eDp (a : List (LE × LE)) : LE := fun L M => (dpL a L (M ++ [.dct []])).bind fun ps M1 => match M1[M.length]?, keysD ps with
  | some (.dct []), some kvs => if kvs.length ≤ 15 then .ok (.obj M.length) (M1.set M.length (.dct (mergeD [] kvs))) else .no
  | _, _ => .no
def RvP (K : PySem.W.Frag) (μ : Plc) (H : Hp) (ps : List (D × D)) (qs : List (V × V)) : Prop := Rvs K μ H (ps.map (·.1)) (qs.map (·.1)) ∧ Rvs K μ H (ps.map (·.2)) (qs.map (·.2))
theorem dp_step {Γ : Gx} {W : WS} : ∀ {a : List (LE × LE)} {σ : L2.St} {H : Hp} {R : List (V × V) → Hp → Prop}, (∃ μ L M, Rs Γ.K μ H L σ ∧ RM Γ.K μ H M ∧ Pst Γ (W σ) (fun μ H => RvP Γ.K μ H) μ H (dpL a L M) R) → tPairs (a.map fun p => (tG Γ W p.1, tG Γ W p.2)) σ H R
  | [], σ, H, R, ⟨μ, L, M, hs, hm, hp⟩ => hp.here hm ⟨rvs_nil, rvs_nil⟩
  | (k, v) :: a, σ, H, R, ⟨μ, L, M, hs, hm, hp⟩ => by
    refine ⟨μ, L, M, hs, hm, hp.bind fun x M1 μ1 v1 H1 _ e1 t1 m1 r1 hp1 => ?_⟩
    refine ⟨μ1, L, M1, hs.mono e1 t1, m1, hp1.bind fun y M2 μ2 v2 H2 _ e2 t2 m2 r2 hp2 => ?_⟩
    refine dp_step (a := a) ⟨μ2, L, M2, hs.mono (e1.trans e2) (t1.trans t2), m2, hp2.bind fun ps M3 μ3 qs H3 _ e3 t3 m3 r3 hp3 => ?_⟩
    exact hp3.here m3 ⟨rvs_cons (r1.mono (e2.trans e3) (t2.trans t3)) r3.1, rvs_cons (r2.mono e3 t3) r3.2⟩
theorem keysD_v {K : PySem.W.Frag} {μ : Plc} {H : Hp} : ∀ {ps : List (D × D)} {qs : List (V × V)} {kvs : List (Key × D)}, RvP K μ H ps qs → keysD ps = some kvs → ∃ ws : List (Key × V), qs = ws.map (fun kv => (kV kv.1, kv.2)) ∧ Rk K μ H kvs ws
  | [], qs, kvs, r, e => by
    cases e
    have := r.1.nil
    exact ⟨[], by simpa using this, Rk.nil⟩
  | (x, y) :: ps, qs, kvs, r, e => by
    unfold keysD at e
    cases q : keyD x with
    | none => rw [q] at e; cases e
    | some k =>
      cases q2 : keysD ps with
      | none => rw [q, q2] at e; cases e
      | some r' =>
        rw [q, q2] at e; cases e
        cases qs with
        | nil => exact absurd r.1.length (by simp)
        | cons p qs =>
          obtain ⟨v1, t1, e1, h1, h2⟩ := r.1.uncons
          obtain ⟨v2, t2, e2, h3, h4⟩ := r.2.uncons
          simp only [List.map_cons, List.cons.injEq] at e1 e2
          obtain ⟨ws, rfl, rk⟩ := keysD_v (ps := ps) (qs := qs) ⟨by rw [e1.2]; exact h2, by rw [e2.2]; exact h4⟩ q2
          refine ⟨(k, p.2) :: ws, ?_, Rk.cons (by rw [e2.1]; exact h3) rk⟩
          have : p.1 = kV k := by rw [e1.1]; exact keyD_v h1 q
          rw [List.map_cons, ← this]
theorem Rk.merge : ∀ {more : List (Key × D)} {us : List (Key × V)} {kvs : List (Key × D)} {ws : List (Key × V)}, Rk K μ H more us → Rk K μ H kvs ws → Rk K μ H (mergeD kvs more) (mergeK ws us)
  | [], us, kvs, ws, r, q => by
    obtain rfl : us = [] := List.eq_nil_of_length_eq_zero (by have := r.len; simpa using this)
    exact q
  | kv :: more, us, kvs, ws, r, q => by
    obtain ⟨v, t, rfl, h1, h2⟩ := r.uncons
    exact Rk.merge (more := more) (us := t) h2 (q.put h1)
theorem pm_disp {W : WS} {pos : Pos} {keys : List (Option Expr)} {values : List Expr} {a : List (LE × LE)} (h : PPs X pos keys values (a.map fun p => (tG ⟨X.K, ce⟩ W p.1, tG ⟨X.K, ce⟩ W p.2))) (hall : keys.all (·.isSome) = true) (hl : keys.length = values.length) (h0 : keys ≠ []) (h15 : keys.length ≤ 15) :
    PE X (.Dict keys values pos) (tG ⟨X.K, ce⟩ W (eDp a)) :=
  pe_imp (pe_disp h hall hl h0 h15) fun σ H Q h => by
    obtain ⟨μ, L, M, hs, hm, hp⟩ := h
    intro p n0
    have tk : Tk X.K H (upd H p (.dK [])) := Tk.new n0
    have m1 : RM X.K (μ ++ [(p, false)]) (upd H p (.dK [])) (M ++ [.dct []]) := hm.pushO (o := .dct []) n0 ⟨[], upd_same, rfl, rvs_nil⟩
    have at0 : (μ ++ [(p, false)])[M.length]? = some (p, false) := by rw [← hm.len, List.getElem?_append_right (Nat.le_refl _), Nat.sub_self]; rfl
    refine dp_step ⟨μ ++ [(p, false)], L, M ++ [.dct []], hs.mono (Ext.push _ _) tk, m1, (hp.shift (Ext.push _ _) tk).bind fun ps M1 μ1 qs H1 _ e1 t1 m2 r1 hp1 => ?_⟩
    have at1 := e1 _ _ at0
    cases q : M1[M.length]? with
    | none => simp only [q] at hp1; exact hp1.elim
    | some o =>
      cases o with
      | dct kvs0 =>
        cases kvs0 with
        | cons _ _ => simp only [q] at hp1; exact hp1.elim
        | nil =>
          cases q2 : keysD ps with
          | none => simp only [q, q2] at hp1; exact hp1.elim
          | some kvs =>
            simp only [q, q2] at hp1
            by_cases z : kvs.length ≤ 15
            · simp only [z, if_true] at hp1
              obtain ⟨ws, h1, h2, _⟩ := m2.dct at1 q
              obtain rfl : ws = [] := by cases ws <;> simp_all
              obtain ⟨us, rfl, rk⟩ := keysD_v r1 q2
              have t2 : Tk X.K H1 (upd H1 p (.dK (mergeK [] us))) := Tk.dct h1
              refine ⟨h1, us, rfl, by rw [rk.len]; exact z, ?_⟩
              have rk2 := (rk.merge Rk.nil).mono (Ext.refl μ1) t2
              exact hp1 μ1 _ _ (Ext.refl _) t2 (m2.setO at1 q rfl rfl t2 ⟨_, upd_same, rk2.1, rk2.2⟩) (rv_obj at1)
            · simp only [z, if_false] at hp1; exact hp1.elim
      | _ => simp only [q] at hp1; exact hp1.elim
end
end G

/-! S5: defs with what is known of the guards around them; their calls; repr of data. -/
namespace G
open PySem L2 PyProof.Rows

/-- a def's promise where no repr runs around -/
structure FG (P : Program) (w : World) (K : PySem.W.Frag) (mg : Str → Option Value) (base : Heap) (CX : CXT) (k : Nat) (f : Addr) (fd : FuncData) (ps : List Str) (sp : Sp) : Prop where
  ar : ∀ vs H Q E, sp vs H Q E → vs.length = ps.length
  go : ∀ (A : Around) (out : List PySem.Env) (s : Shared) (H : Hp) (as : Args) (us : List Value) (vs : List V) (Q : VK) (E : XK), Room k A → A.guards = some [] → Env0 P w K mg base A out s H →
    BindsTo s fd as (ps.zip us) → Vals vs us → sp vs H Q E → codeAny (model P w) A (.call (.ref f) as) (CR CX out P w H s Q E) s
theorem FG.mono {P : Program} {w : World} {K : PySem.W.Frag} {mg : Str → Option Value} {base : Heap} {CX : CXT} {j k : Nat} {f : Addr} {fd : FuncData} {ps : List Str} {sp : Sp} (F : FG P w K mg base CX j f fd ps sp) (h : j ≤ k) : FG P w K mg base CX k f fd ps sp :=
  ⟨F.ar, fun A out s H as us vs Q E r => F.go A out s H as us vs Q E (r.mono h)⟩

theorem fg_of {CX : CXT} {P : Program} {w : World} {K : PySem.W.Frag} {mg : Str → Option Value} {base : Heap} {k : Nat} {f : Addr} {nm ql : Str} {prm : Arguments} {bdy : List Stmt} {scp : Scope} {dV kV dc pm cdv ct oc : Value} {an od : Option Addr}
    {sl : Array (Option Value)} {N ps : List Str} {sp : Sp} (lk : K.lookup f = some ⟨oc, od, .func (PySem.W.fnOf nm ql prm bdy scp dV kV dc pm an cdv ct), sl⟩) (hc : PySem.W.codeIn K cdv ql = true) (S : FnScope N ps scp)
    (ar : ∀ vs H Q E, sp vs H Q E → vs.length = ps.length)
    (body : ∀ (A : Around) (out : List PySem.Env) (s : Shared) (H : Hp) (vs : List V) (Q : VK) (E : XK), Room k (A.deeper (envOfC ql scp s.heap.objs.size f cdv)) → A.guards = some [] → sp vs H Q E →
      ∃ t, PSs (cxOf CX P w K mg base N ql scp f cdv A out s H E) bdy t ∧ t { nx := fun _ H' => Q .non H', rt := Q } (start N vs) H) :
    FG P w K mg base CX (k + 1) f (PySem.W.fnOf nm ql prm bdy scp dV kV dc pm an cdv ct) ps sp := by
  refine ⟨ar, fun A out s H as us vs Q E room gd en bnd rel pr => ?_⟩
  have ln := ar _ _ _ _ pr
  have kin : K.In s.heap := en.mod.kin.keeps fun b o q => (en.bs b o q).1
  have nl : s.heap.NoLimit := en.mod.nolimit.keeps fun b o q => (en.bs b o q).1
  have kinds : ∀ y ∈ ps.zip us, scp.names.lookup y.1 = some .local ∨ (scp.names.lookup y.1 = some .cell ∧ ((cellsFrom (s.heap.objs.size + 1) scp.names []).lookup y.1).isSome = true) := by
    intro y hy
    have par := S.par y.1 (List.of_mem_zip hy).1
    rcases par with q | q
    · exact .inl q
    · exact .inr ⟨q, PySem.W.cellsFrom_some _ _ _ (.inl q)⟩
  have binds := bnd
  refine codeAny_call_function room.depth (kin _ _ lk) rfl S.co S.gen rfl (PySem.W.codeRec_of kin hc) (binds _ _ _ _ ?_)
  refine wpAny_newFunctionEnv_cells S.kind kinds fun ev ee s1 xx => ?_
  subst ee
  refine ⟨nl.keeps xx.toInCall.keep, codeAny_func ?_⟩
  obtain ⟨t, d, q⟩ := body A out s H vs Q E (room.deeper _) gd pr
  have J : Inv (cxOf CX P w K mg base N ql scp f cdv A out s H E) [] (start N vs) H s1 := inv_start S room.hd en ln rel xx
  refine wpAny_mono (d.run [] s1 (start N vs) H _ J q) (fun fl s' z => ?_) fun x s' z => z
  have last : ∀ {σ' : L2.St} {H' : Hp} {v : V} {u : Value}, Inv (cxOf CX P w K mg base N ql scp f cdv A out s H E) [] σ' H' s' → RelV v u → Q v H' → CE out P w H s Q u s' := by
    intro σ' H' v u j rv qv
    exact ⟨v, H', j.os, j.bare, j.base, j.hok, rv, qv⟩
  cases fl with
  | ret u => obtain ⟨v, σ', H', j, rv, qv⟩ := z; exact last j rv qv
  | next => obtain ⟨σ', H', j, qv⟩ := z; exact last (v := V.non) (u := Value.none) j rfl qv
  | brk => obtain ⟨_, _, _, qv⟩ := z; exact qv.elim
  | cont => obtain ⟨_, _, _, qv⟩ := z; exact qv.elim

/-! ### what a def does, by values -/
abbrev Fn := List D → Mem → Res D
/-- a body run at its parameters' values, n names in all, p of them parameters -/
def retF (r : Res (Fl × Env)) : Res D := match r with
  | .ok (.nx, _) M1 => .ok .non M1
  | .ok (.rt d, _) M1 => .ok d M1
  | .ok (.xc e, _) M1 => .ex e M1
  | .ex e M1 => .ex e M1
  | _ => .no
def runF (n p : Nat) (b : LS) : Fn := fun ds M => if ds.length = p then retF (b (ds.map some ++ List.replicate (n - p) none) M) else .no
def spG [Tab] (Γ : Gx) (f : Fn) : Sp := fun vs H Q E => ∃ μ M ds, RM Γ.K μ H M ∧ Rvs Γ.K μ H ds vs ∧ Pst Γ E (RvR Γ) μ H (f ds M) Q
def PstS [Tab] (Γ : Gx) (W : WS) (μ : Plc) (H : Hp) (r : Res (Fl × Env)) (D : Ends) : Prop := match r with
  | .ok (fl, L') M' => ∀ μ' σ' H', Ext μ μ' → Tk Γ.K H H' → RM Γ.K μ' H' M' → Rs Γ.K μ' H' L' σ' → match fl with
    | .nx => D.nx σ' H'
    | .bk => D.bk σ' H'
    | .ct => D.ct σ' H'
    | .rt d => ∀ v, Rv Γ.K μ' H' d v → D.rt v H'
    | .xc e => ∀ cls dd, RX Γ.K Γ.ce μ' H' e cls dd → W σ' cls dd H'
  | .ex e M' => ∀ μ' σ' H' cls dd, Ext μ μ' → Tk Γ.K H H' → RM Γ.K μ' H' M' → RX Γ.K Γ.ce μ' H' e cls dd → W σ' cls dd H'
  | .no => False
def tGS [Tab] (Γ : Gx) (W : WS) (m : LS) : TS := fun D σ H => ∃ μ L M, Rs Γ.K μ H L σ ∧ RM Γ.K μ H M ∧ PstS Γ W μ H (m L M) D

section
variable [Tab] {P : Program} {w : World} {K : PySem.W.Frag} {mg : Str → Option Value} {base : Heap} {ce : Nat → Addr × List Str}
/-- a def of the text (its defaults stand in the call), by its body -/
theorem fg_fun {CX : CXT} {x qual : Str} {st : Stmt} {dvs : List V} {kws : List (Str × V)} {f : Addr} {fd : FuncData} {N ps : List Str} {k : Nat} {b : LS} (F : FunD K x qual (defArgs st) (defBody st) (defScope st) dvs kws f fd) (S : FnScope N ps (defScope st))
    (body : ∀ (cdv : Value) (A : Around) (out : List PySem.Env) (s : Shared) (H : Hp) (E : XK), Room k (A.deeper (envOfC qual (defScope st) s.heap.objs.size f cdv)) → A.guards = some [] →
      PSs (cxOf CX P w K mg base N qual (defScope st) f cdv A out s H E) (defBody st) (tGS ⟨K, ce⟩ (fun _ => E) b)) :
    FG P w K mg base CX (k + 1) f fd ps (spG ⟨K, ce⟩ (runF N.length ps.length b)) := by
  obtain ⟨oc, od, dV, kV, doc, pm, an, cdv, ct, osl, rfl, lk, hcd, _, _⟩ := F.ex
  have arity : ∀ vs H Q E, spG ⟨K, ce⟩ (runF N.length ps.length b) vs H Q E → ∃ μ M ds, vs.length = ps.length ∧ RM K μ H M ∧ Rvs K μ H ds vs ∧ ds.length = ps.length ∧ Pst ⟨K, ce⟩ E (RvR ⟨K, ce⟩) μ H (runF N.length ps.length b ds M) Q := by
    rintro vs H Q E ⟨μ, M, ds, hm, hr, hp⟩
    by_cases q : ds.length = ps.length
    · exact ⟨μ, M, ds, by rw [hr.length]; exact q, hm, hr, q, hp⟩
    · unfold runF at hp
      rw [if_neg q] at hp
      exact hp.elim
  refine fg_of lk hcd S (fun vs H Q E h => let ⟨_, _, _, e, _⟩ := arity vs H Q E h; e) fun A out s H vs Q E room gd pr => ⟨_, body cdv A out s H E room gd, ?_⟩
  obtain ⟨μ, M, ds, _, hm, hr, hd, hp⟩ := arity _ _ _ _ pr
  unfold runF at hp
  rw [if_pos hd] at hp
  refine ⟨μ, ds.map some ++ List.replicate (N.length - ps.length) none, M, ⟨?_, fun i d e => ?_⟩, hm, ?_⟩
  · unfold L2.start
    simp only [List.length_append, List.length_map, List.length_replicate, hr.length, hd]
  · have hi : i < ds.length := by
      by_cases hi : i < ds.length
      · exact hi
      · rw [List.getElem?_append_right (by rw [List.length_map]; omega), List.getElem?_replicate] at e
        split at e <;> cases e
    rw [List.getElem?_append_left (by rw [List.length_map]; exact hi), List.getElem?_map] at e
    have e2 : ds[i]? = some d := by
      cases q : ds[i]? with
      | none => rw [q] at e; cases e
      | some z => rw [q] at e; cases e; rfl
    obtain ⟨v, h1, h2⟩ := hr.get e2
    refine ⟨v, ?_, h2⟩
    unfold L2.start
    rw [List.getElem?_append_left (by rw [List.length_map]; exact (List.getElem?_eq_some_iff.mp h1).1), List.getElem?_map, h1]
    rfl
  · cases q : b (ds.map some ++ List.replicate (N.length - ps.length) none) M with
    | no => rw [q] at hp; exact hp.elim
    | ex e M' =>
      rw [q] at hp
      exact fun μ' σ' H' cls dd e1 t1 m1 rx => hp μ' H' cls dd e1 t1 m1 rx
    | ok r M1 =>
      rw [q] at hp
      obtain ⟨fl, L'⟩ := r
      intro μ' σ' H' e1 t1 m1 r1
      cases fl with
      | nx => exact hp μ' _ H' e1 t1 m1 rv_non
      | rt d => exact fun v rv => hp μ' v H' e1 t1 m1 rv
      | xc e => exact fun cls dd rx => hp μ' H' cls dd e1 t1 m1 rx
      | bk => exact hp.elim
      | ct => exact hp.elim
end

/-! ### calls of the text's defs -/
section
variable [Tab] {X : Cx} {Γ : Gx} {ce : Nat → Addr × List Str} {W : WS} {CX : CXT} {k : Nat} {f : Addr} {fd : FuncData} {ps : List Str} {fn : Fn} {dvs : List V} {dds : List D} {x : Str} {p pos : Pos} {e : Expr} {es : List Expr} {ml : LA}
/-- f(..), the defaults dds behind the arguments -/
def eCall (fn : Fn) (dds : List D) (a : LA) : LE := fun L M => (a L M).bind fun xs M1 => fn (xs ++ dds) M1
theorem run_fg {ds : List Value} {pins : List (Addr × Obj)} {σ : L2.St} {H : Hp} {s : Shared} {Q : VK} {us : List Value} {vs : List V} {sp : Sp} {E : XK} (F : FG X.prog X.w X.K X.mg X.base CX k f fd ps sp) (hr : Room k X.A) (hgd : X.A.guards = some []) (hb : Binds X.K fd ps ds) (hd : Vals dvs ds)
    (hx : PassesAt CX X σ E) (I : Inv X pins σ H s) (r : Vals vs us) (h : sp (vs ++ dvs) H Q E) : wpAny (model X.prog X.w) X.A (call (.ref f) us) (EP X pins σ Q) X.xe s := by
  have rr : Vals (vs ++ dvs) (us ++ ds) := r.append hd
  have ll : (us ++ ds).length = ps.length := rr.length.symm.trans (F.ar _ _ _ _ h)
  refine wpAny_call (codeAny_mono (F.go X.A X.stack s H ⟨us, []⟩ (us ++ ds) (vs ++ dvs) Q E hr hgd I.env0 (hb s us I.kIn ll) rr h) fun z s' hz => ?_)
  cases z with
  | error u => exact hx pins H s u s' I hz
  | ok fl => cases fl with
    | ret u => exact I.after hz
    | next => exact hz.elim
    | brk => exact hz.elim
    | cont => exact hz.elim
theorem pm_call {ce : Nat → Addr × List Str} (F : FG X.prog X.w X.K X.mg X.base CX k f fd ps (spG ⟨X.K, ce⟩ fn)) (hr : Room k X.A) (hgd : X.A.guards = some []) (hg : Gl X x) (hm : X.mg x = some (.ref f)) (hk : PySem.W.keepIn X.K (.ref f) = true)
    (hbd : ∃ ds, Vals dvs ds ∧ Binds X.K fd ps ds) (hdd : ∀ μ H, Rvs X.K μ H dds dvs) (hx : ∀ σ, PassesAt CX X σ (W σ)) (ha : PA X (e :: es) (tGA ⟨X.K, ce⟩ W ml)) (hdb : (x == ("__debug__" : Str)) = false := by decide)
    (he : starEach (e :: es) X.env = (false, eval e X.env) :: starEach es X.env := by rfl) (hpl : (backTo pos (starEach es X.env)).any (·.1) = false := by rfl) :
    PE X (.Call (.Name x p) (e :: es) [] pos) (tG ⟨X.K, ce⟩ W (eCall fn dds ml)) := by
  obtain ⟨ds, hd, hb⟩ := hbd
  refine ⟨fun pins s σ H Q I h => ?_⟩
  obtain ⟨μ, L, M, hs, hM, hp⟩ := h
  refine wpAny_Call_Name_kw (ld_glob I hg hm ?_ hdb)
  have args := ha.run pos pins s σ H (fun vs H1 => spG ⟨X.K, ce⟩ fn (vs ++ dvs) H1 Q (W σ)) I ⟨μ, L, M, hs, hM, hp.bind fun xs M1 μ1 vs H1 _ e1 t1 m1 r1 hp1 => ⟨μ1, M1, xs ++ dds, m1, r1.append (hdd _ _), hp1⟩⟩
  refine PySem.W.callWith_K (h₀ := X.base) I.ok.mod.kin hk (thn args fun us s1 ⟨vs, H1, I1, r, q⟩ => ⟨I1.kIn, ?_⟩) he hpl
  exact run_fg F hr hgd hb hd (hx σ) I1 r q
theorem pm_call0 {ce : Nat → Addr × List Str} (F : FG X.prog X.w X.K X.mg X.base CX k f fd ps (spG ⟨X.K, ce⟩ fn)) (hr : Room k X.A) (hgd : X.A.guards = some []) (hg : Gl X x) (hm : X.mg x = some (.ref f)) (hk : PySem.W.keepIn X.K (.ref f) = true)
    (hbd : ∃ ds, Vals dvs ds ∧ Binds X.K fd ps ds) (hdd : ∀ μ H, Rvs X.K μ H dds dvs) (hx : ∀ σ, PassesAt CX X σ (W σ)) (hdb : (x == ("__debug__" : Str)) = false := by decide) :
    PE X (.Call (.Name x p) [] [] pos) (tG ⟨X.K, ce⟩ W (eCall fn dds aN)) := by
  obtain ⟨ds, hd, hb⟩ := hbd
  refine ⟨fun pins s σ H Q I h => ?_⟩
  obtain ⟨μ, L, M, hs, hM, hp⟩ := h
  refine wpAny_Call_Name_kw (ld_glob I hg hm ?_ hdb)
  exact PySem.W.callWith_K0 I.kIn hk (run_fg (us := []) (vs := []) F hr hgd hb hd (hx σ) I .nil ⟨μ, M, dds, hM, hdd _ _, hp⟩)
end

/-! ### repr of data whose ints have at most 4,300 digits -/
section
variable {prog : Program} {w : World} {A : Around} {E : Value → Shared → Prop} {s : Shared}
theorem over_small {a : Int} {Q : Option Nat → Shared → Prop} (hn : s.heap.NoDigits) (h : a.natAbs < 10 ^ 4300) (q : Q none s) : wpAny (model prog w) A (Builtin.overDigitLimit? a) Q E s :=
  overDigitLimit_any hn (fun _ => q) fun g => absurd h (Nat.not_lt.mpr g)
theorem obj_int_big {a : Int} {t : Tok} {Q : Value → Shared → Prop} (hn : s.heap.NoDigits) (ha : a.natAbs < 10 ^ 4300) (q : Q (.str (toString a) s.toks) { s with toks := s.toks + 1 }) : wpAny (model prog w) A (pyReprObj (.int a t)) Q E s := by
  unfold pyReprObj; simp only [cRoomFor, List.any_cons, List.any_nil, Value.onHeap, Bool.or_false, Bool.false_eq_true, if_false, pure_bind]
  refine wpAny_bind (wpAny_specialOf (name := Str.ofString "__repr__") (typeIs_int s a t) PySem.F.slot_int_repr.lookup ?_)
  refine wpAny_bind (m := callSpecialIfBound? (.int a t) (Str.ofString "__repr__")) (wpAny_callSpecialIfBound?_slot (name := Str.ofString "__repr__") (typeIs_int s a t) PySem.F.slot_int_repr ?_)
  refine wpAny_call (codeAny_call_builtin PySem.F.slot_int_repr.plain PySem.F.entry_int_repr (PySem.F.slot_int_repr.check _ _ _ _ _ _ _ _ (typeIs_int s a t) (PySem.F.args_int_repr_1 _) ?_))
  unfold Builtin.«int.__repr__»; show wpAny _ _ (do let r ← Builtin.overDigitLimit? a; _) _ _ s
  refine wpAny_bind (over_small hn ha ?_)
  refine wpAny_bind (wpAny_mkStr (wpAny_pure ?_) (int_text_fits10 ha))
  exact wpAny_bind (wpAny_isInstance (T := "str") (b := true) rfl isSubtype_str_str (wpAny_pure q))

theorem pyRepr_int_big {a : Int} {t : Tok} {Q : Str → Shared → Prop} (hn : s.heap.NoDigits) (ha : a.natAbs < 10 ^ 4300) (q : Q (toString a) { s with toks := s.toks + 1 }) : wpAny (model prog w) A (pyRepr (.int a t)) Q E s := by
  unfold pyRepr
  exact wpAny_bind (obj_int_big hn ha (wpAny_pure q))
end
mutual
/-- what repr can show: ints of at most 4,300 digits -/
def tame : PyData → Bool
  | .none | .bool _ | .str _ => true
  | .int i => decide (i.natAbs < 10 ^ 4300)
  | .list xs | .tuple xs => tames xs
  | .dict kvs => tameKv kvs
def tames : List PyData → Bool
  | [] => true
  | x :: xs => tame x && tames xs
def tameKv : List (PyData × PyData) → Bool
  | [] => true
  | (k, v) :: r => tame k && tame v && tameKv r
end
theorem tameKv_split : ∀ kvs : List (PyData × PyData), tameKv kvs = true → tames (kvs.map (·.1)) = true ∧ tames (kvs.map (·.2)) = true
  | [], _ => by simp only [List.map_nil, tames, and_self]
  | (k, v) :: r, h => by
    have h' : (tame k = true ∧ tame v = true) ∧ tameKv r = true := by simpa [tameKv] using h
    obtain ⟨h1, h2⟩ := tameKv_split r h'.2
    simp only [List.map_cons, tames, h'.1.1, h'.1.2, h1, h2, Bool.and_self, and_self]
section
variable {prog : Program} {w : World} {h₀ : Heap}
mutual
theorem reprK_tame (hn : h₀.NoDigits) : ∀ {v : Value} {d : PyData}, RdsS h₀ v d → tame d = true → d.shown.length ≤ sizeLine → ∃ bs, ReadAtMost h₀ d.depth bs ∧ ReprK prog w bs h₀ d.depth v d.shown
  | _, _, .none, _, _ => ⟨[], (fun _ z => nomatch z), by simp only [PyData.shown]; exact ReprK.of_is ReprIs.none _ _ _⟩
  | _, _, .bool b, _, _ => ⟨[], (fun _ z => nomatch z), by simp only [PyData.shown]; exact ReprK.of_is (ReprIs.bool b) _ _ _⟩
  | _, _, .int i t, ht, _ => ⟨[], (fun _ z => nomatch z), by
    simp only [PyData.shown]
    intro base hb A g E s Q hg hcl hu hk hQ
    rw [pyReprUnder_leaf (v := .int i t) (by omega) (fun _ e => nomatch e)]
    exact pyRepr_int_big (hn.keeps hk) (by simpa [tame] using ht) (hQ s.heap _ fun _ _ e => e)⟩
  | _, _, .str x t, _, hz => ⟨[], (fun _ z => nomatch z), by simp only [PyData.shown]; exact ReprK.of_is (ReprIs.str x t (by simpa only [PyData.shown] using hz)) _ _ _⟩
  | _, _, .list (a := a) (vs := vs) (xs := xs) g1 g2 g3 g4, ht, hz => by
    have z : (listText (PyData.shownAll xs)).length ≤ sizeLine := by simpa only [PyData.shown] using hz
    obtain ⟨bs, am, kk⟩ := reprAllK_tame hn g4 (by simpa [tame] using ht) fun t m => Nat.le_trans (listText_mem_le m) z
    obtain ⟨as, r4⟩ := g4.reads
    have rd : Reads h₀ (.ref a) (.list xs) _ := .list g1 g2 g3 r4
    have off : a ∉ bs := not_mem_of_deeper rd (by simp only [PyData.depth]; omega) am
    refine ⟨a :: bs, fun b hb => ?_, ?_⟩
    · rcases List.mem_cons.mp hb with rfl | hb
      · exact ⟨_, _, rd, Nat.le_refl _⟩
      · obtain ⟨d', as', r', l'⟩ := am b hb
        exact ⟨d', as', r', by simp only [PyData.depth]; omega⟩
    · simp only [PyData.depth, PyData.shown]
      obtain ⟨l⟩ := vs
      cases l with
      | nil => have g5 : RdsA h₀ [] xs := g4; cases g5; simp only [PyData.shownAll, listText_nil]; exact ReprK.listEmpty g1 g2 g3
      | cons x l => exact ReprK.list g1 g2 g3 off (by simpa using kk.length_eq) fun i y e => kk.item i y (by simpa using e)
  | _, _, .tuple (a := a) (xs := xs) g1 g2 g3 g4, ht, hz => by
    have z : (tupleText (PyData.shownAll xs)).length ≤ sizeLine := by simpa only [PyData.shown] using hz
    obtain ⟨bs, am, kk⟩ := reprAllK_tame hn g4 (by simpa [tame] using ht) fun t m => Nat.le_trans (tupleText_mem_le m) z
    obtain ⟨as, r4⟩ := g4.reads
    have rd : Reads h₀ (.ref a) (.tuple xs) _ := .tuple g1 g2 g3 r4
    have off : a ∉ bs := not_mem_of_deeper rd (by simp only [PyData.depth]; omega) am
    refine ⟨a :: bs, fun b hb => ?_, ?_⟩
    · rcases List.mem_cons.mp hb with rfl | hb
      · exact ⟨_, _, rd, Nat.le_refl _⟩
      · obtain ⟨d', as', r', l'⟩ := am b hb
        exact ⟨d', as', r', by simp only [PyData.depth]; omega⟩
    · simp only [PyData.depth, PyData.shown]
      exact ReprK.tuple g1 g2 g3 off kk
  | _, _, .dict (a := a) (es := es) (kvs := kvs) g1 g2 g0 g3 g4 g5, ht, hz => by
    have z : (dictText (PyData.shownKv kvs)).length ≤ sizeLine := by simpa only [PyData.shown] using hz
    obtain ⟨t1, t2⟩ := tameKv_split kvs (by simpa [tame] using ht)
    obtain ⟨b1, am1, k1⟩ := reprAllK_tame hn g4 t1 (fun t m => let ⟨p, hp, hl⟩ := PyData.shownKv_key_le kvs t m; Nat.le_trans hl (Nat.le_trans (dictText_mem_le hp) z))
    obtain ⟨b2, am2, k2⟩ := reprAllK_tame hn g5 t2 (fun t m => let ⟨p, hp, hl⟩ := PyData.shownKv_val_le kvs t m; Nat.le_trans hl (Nat.le_trans (dictText_mem_le hp) z))
    obtain ⟨as, r4⟩ := g4.reads
    obtain ⟨as', r5⟩ := g5.reads
    have rd : Reads h₀ (.ref a) (.dict kvs) _ := .dict g1 g2 g3 r4 r5
    have hb : ReadAtMost h₀ (PyData.depthKv kvs) (b1 ++ b2) := (ReadAtMost.mono am1 (PyData.depthAll_keys_le kvs)).append (ReadAtMost.mono am2 (PyData.depthAll_vals_le kvs))
    have off : a ∉ b1 ++ b2 := not_mem_of_deeper rd (by simp only [PyData.depth]; omega) hb
    refine ⟨a :: (b1 ++ b2), ReadAtMost.cons rd (by simp only [PyData.depth]; omega) hb, ?_⟩
    simp only [PyData.depth, PyData.shown, PyData.shownKv_eq]
    exact ReprK.dict g1 g2 g3 g0 off (ReprEntriesK.of_two es.toList _ _
      (k1.more_le (fun b hb => List.mem_append_left _ hb) (PyData.depthAll_keys_le kvs)) (k2.more_le (fun b hb => List.mem_append_right _ hb) (PyData.depthAll_vals_le kvs)))
theorem reprAllK_tame (hn : h₀.NoDigits) : ∀ {vs : List Value} {ds : List PyData}, RdsA h₀ vs ds → tames ds = true → (∀ t ∈ PyData.shownAll ds, t.length ≤ sizeLine) →
    ∃ bs, ReadAtMost h₀ (PyData.depthAll ds) bs ∧ ReprAllK prog w bs h₀ (PyData.depthAll ds) vs (PyData.shownAll ds)
  | _, _, .nil, _, _ => ⟨[], (fun _ z => nomatch z), by simp only [PyData.shownAll]; exact .nil⟩
  | _, _, .cons (d := d) (ds := ds) r rs, ht, hz => by
    have tt : tame d = true ∧ tames ds = true := by simpa [tames] using ht
    obtain ⟨b1, am1, k1⟩ := reprK_tame hn r tt.1 (hz _ (by simp only [PyData.shownAll]; exact List.mem_cons_self ..))
    obtain ⟨b2, am2, k2⟩ := reprAllK_tame hn rs tt.2 fun t m => hz t (by simp only [PyData.shownAll]; exact List.mem_cons_of_mem _ m)
    refine ⟨b1 ++ b2, fun b hm => ?_, ?_⟩
    · simp only [PyData.depthAll]
      rcases List.mem_append.mp hm with m | m
      · obtain ⟨d', as', r', l'⟩ := am1 b m
        exact ⟨d', as', r', Nat.le_trans l' (Nat.le_max_left _ _)⟩
      · obtain ⟨d', as', r', l'⟩ := am2 b m
        exact ⟨d', as', r', Nat.le_trans l' (Nat.le_max_right _ _)⟩
    · simp only [PyData.depthAll, PyData.shownAll]
      exact .cons ((k1.more fun b m => List.mem_append_left _ m).level_le (Nat.le_max_left _ _)) (k2.more_le (fun b m => List.mem_append_right _ m) (Nat.le_max_right _ _))
end
variable {A : Around} {E : Value → Shared → Prop} {s : Shared} {Q : Value → Shared → Prop}
theorem call_repr_ref {a : Addr} {d : PyData} (hn : s.heap.NoDigits) (r : RdsS s.heap (.ref a) d) (ht : tame d = true) (hz : d.shown.length ≤ sizeLine) (hg : A.guards = some []) (hu : A.units + (d.depth + 1) < cLine)
    (hQ : ∀ h' u tk, (∀ b o, s.heap.get? b = some o → h'.get? b = some o) → Q (.str d.shown u) { s with heap := h', toks := tk }) : wpAny (model prog w) A (call (.builtin "repr") [.ref a]) Q E s := by
  cases r with
  | list g1 g2 g3 g4 =>
    rename_i o vs n xs
    have z : (listText (PyData.shownAll xs)).length ≤ sizeLine := by simpa only [PyData.shown] using hz
    obtain ⟨bs, am, kk⟩ := reprAllK_tame (prog := prog) (w := w) hn g4 (by simpa [tame] using ht) fun t m => Nat.le_trans (listText_mem_le m) z
    obtain ⟨as, r4⟩ := g4.reads
    have off : a ∉ bs := not_mem_of_deeper (.list g1 g2 g3 r4) (by simp only [PyData.depth]; omega) am
    simp only [PyData.depth] at hu
    simp only [PyData.shown] at hQ
    refine call_repr_slot (by omega) ⟨o, g1, g2⟩ PySem.F.slot_list_repr.toG ?_
    obtain ⟨l⟩ := vs
    cases l with
    | nil =>
      have g5 : RdsA s.heap [] xs := g4
      cases g5
      simp only [PyData.shownAll, listText_nil] at hQ
      exact call_list_repr_empty ⟨o, g1, g2⟩ g1 g3 ⟨_, _, rfl, hQ s.heap _ _ fun _ _ e => e⟩
    | cons x l =>
      exact call_list_reprK g1 g2 g3 off (by simpa using kk.length_eq) (fun i y e => kk.item i y (by simpa using e)) hg (fun b _ => Clear.nil b) (by show A.units + 1 + _ < cLine; omega) (fun _ _ e => e) (fun h' u tk k => ⟨_, _, rfl, hQ h' u tk k⟩) z
  | tuple g1 g2 g3 g4 =>
    rename_i o vs n xs
    have z : (tupleText (PyData.shownAll xs)).length ≤ sizeLine := by simpa only [PyData.shown] using hz
    obtain ⟨bs, am, kk⟩ := reprAllK_tame (prog := prog) (w := w) hn g4 (by simpa [tame] using ht) fun t m => Nat.le_trans (tupleText_mem_le m) z
    obtain ⟨as, r4⟩ := g4.reads
    have off : a ∉ bs := not_mem_of_deeper (.tuple g1 g2 g3 r4) (by simp only [PyData.depth]; omega) am
    simp only [PyData.depth] at hu
    simp only [PyData.shown] at hQ
    refine call_repr_slot (by omega) ⟨o, g1, g2⟩ PySem.F.slot_tuple_repr ?_
    exact call_tuple_reprK g1 g2 g3 off kk hg (fun b _ => Clear.nil b) (by show A.units + 1 + _ < cLine; omega) (fun _ _ e => e) (fun h' u tk k => ⟨_, _, rfl, hQ h' u tk k⟩) z
  | dict g1 g2 g0 g3 g4 g5 =>
    rename_i o es n kvs
    have z : (dictText (PyData.shownKv kvs)).length ≤ sizeLine := by simpa only [PyData.shown] using hz
    obtain ⟨t1, t2⟩ := tameKv_split kvs (by simpa [tame] using ht)
    obtain ⟨b1, am1, k1⟩ := reprAllK_tame (prog := prog) (w := w) hn g4 t1 (fun t m => let ⟨p, hp, hl⟩ := PyData.shownKv_key_le kvs t m; Nat.le_trans hl (Nat.le_trans (dictText_mem_le hp) z))
    obtain ⟨b2, am2, k2⟩ := reprAllK_tame (prog := prog) (w := w) hn g5 t2 (fun t m => let ⟨p, hp, hl⟩ := PyData.shownKv_val_le kvs t m; Nat.le_trans hl (Nat.le_trans (dictText_mem_le hp) z))
    obtain ⟨as, r4⟩ := g4.reads
    obtain ⟨as', r5⟩ := g5.reads
    have rd : Reads s.heap (.ref a) (.dict kvs) _ := .dict g1 g2 g3 r4 r5
    have hb : ReadAtMost s.heap (PyData.depthKv kvs) (b1 ++ b2) := (ReadAtMost.mono am1 (PyData.depthAll_keys_le kvs)).append (ReadAtMost.mono am2 (PyData.depthAll_vals_le kvs))
    have off : a ∉ b1 ++ b2 := not_mem_of_deeper rd (by simp only [PyData.depth]; omega) hb
    simp only [PyData.depth] at hu
    simp only [PyData.shown, PyData.shownKv_eq] at hQ
    refine call_repr_slot (by omega) ⟨o, g1, g2⟩ PySem.F.slot_dict_repr ?_
    exact call_dict_reprK g1 g2 g3 g0 off (ReprEntriesK.of_two es.toList _ _
      (k1.more_le (fun b hb => List.mem_append_left _ hb) (PyData.depthAll_keys_le kvs)) (k2.more_le (fun b hb => List.mem_append_right _ hb) (PyData.depthAll_vals_le kvs))) hg (fun b _ => Clear.nil b) (by show A.units + 1 + _ < cLine; omega) (fun _ _ e => e) (fun h' u tk k => ⟨_, _, rfl, hQ h' u tk k⟩) (by rw [← PyData.shownKv_eq]; exact z)
/-- repr(v) -/
theorem call_repr_tame {v : Value} {d : PyData} (hn : s.heap.NoDigits) (r : RdsS s.heap v d) (ht : tame d = true) (hz : d.shown.length ≤ sizeLine) (hg : A.guards = some []) (hu : A.units + (d.depth + 1) < cLine)
    (hQ : ∀ h' u tk, (∀ b o, s.heap.get? b = some o → h'.get? b = some o) → Q (.str d.shown u) { s with heap := h', toks := tk }) : wpAny (model prog w) A (call (.builtin "repr") [v]) Q E s := by
  cases r with
  | none => simp only [PyData.shown] at hQ; exact PySem.P.repr_of_none (hQ s.heap _ _ fun _ _ e => e)
  | bool b => simp only [PyData.shown] at hQ; exact PySem.P.repr_of_bool (hQ s.heap _ _ fun _ _ e => e)
  | str x t => simp only [PyData.shown] at hQ hz; exact PySem.P.repr_of_str (hQ s.heap _ _ fun _ _ e => e) hz
  | int i t =>
    simp only [PyData.shown] at hQ
    have hi : i.natAbs < 10 ^ 4300 := by simpa [tame] using ht
    refine PySem.Calls.call_function_entry PySem.F.kind_repr PySem.F.plain_repr PySem.F.entry_repr (PySem.F.args_repr1 _) ?_
    unfold Builtin.«repr»; refine wpAny_bind (m := oneArg "repr" _) (wpAny_pure ?_)
    simp only [cRoomFor, List.any_cons, List.any_nil, Value.onHeap, Bool.or_false, Bool.false_eq_true, if_false, pure_bind]
    refine wpAny_bind (wpAny_specialOf (name := Str.ofString "__repr__") (typeIs_int s i t) PySem.F.slot_int_repr.lookup ?_)
    refine wpAny_bind (m := callSpecialIfBound? (.int i t) (Str.ofString "__repr__")) (wpAny_callSpecialIfBound?_slot (name := Str.ofString "__repr__") (typeIs_int s i t) PySem.F.slot_int_repr ?_)
    refine wpAny_call (codeAny_call_builtin PySem.F.slot_int_repr.plain PySem.F.entry_int_repr (PySem.F.slot_int_repr.check _ _ _ _ _ _ _ _ (typeIs_int s i t) (PySem.F.args_int_repr_1 _) ?_))
    unfold Builtin.«int.__repr__»; show wpAny _ _ (do let r ← Builtin.overDigitLimit? i; _) _ _ s
    refine wpAny_bind (over_small hn hi ?_)
    refine wpAny_bind (wpAny_mkStr (wpAny_pure ?_) (int_text_fits10 hi))
    refine wpAny_bind (wpAny_isInstance (T := "str") (b := true) rfl isSubtype_str_str ?_)
    exact wpAny_pure ⟨_, rfl, hQ s.heap _ _ fun _ _ e => e⟩
  | list g1 g2 g3 g4 => exact call_repr_ref hn (.list g1 g2 g3 g4) ht hz hg hu hQ
  | tuple g1 g2 g3 g4 => exact call_repr_ref hn (.tuple g1 g2 g3 g4) ht hz hg hu hQ
  | dict g1 g2 g0 g3 g4 g5 => exact call_repr_ref hn (.dict g1 g2 g0 g3 g4 g5) ht hz hg hu hQ
end
/-- repr, by values -/
def bRepr (xs : List D) (M : Mem) : Res D := match xs with
  | [x] => match pyD M x with
    | some p => if tame p = true ∧ p.depth ≤ 60 ∧ p.shown.length ≤ big then .ok (.str p.shown) M else .no
    | none => .no
  | _ => .no
theorem cg_repr [Tab] {X : Cx} {ce : Nat → Addr × List Str} (hg : X.A.guards = some []) (hu : X.A.units + 64 < cLine) (hn : X.base.NoDigits) : CallR X (.builtin "repr") (rGs ⟨X.K, ce⟩ bRepr) := by
  intro pins s σ H xs us Q I r h
  obtain ⟨μ, M, ds, hm, rd, hp⟩ := h
  unfold bRepr at hp
  split at hp
  · rename_i x
    obtain ⟨v, rfl, rv⟩ := rd.one
    obtain ⟨u, rfl, ru⟩ := vals1 r
    cases q : pyD M x with
    | none => simp only [q] at hp; exact hp.elim
    | some p =>
      simp only [q] at hp
      by_cases z : tame p = true ∧ p.depth ≤ 60 ∧ p.shown.length ≤ big
      · simp only [z, and_self, if_true] at hp
        refine call_repr_tame (hn.keeps I.bk) ((pyD_dp hm rv q).rds I ru) z.1 (big_le z.2.2) hg (by omega) fun h' t tk k => ?_
        exact ⟨.str p.shown, H, I.kept (t' := tk) k, ⟨t, rfl⟩, hp.here hm (rv_str _)⟩
      · simp only [z, if_false] at hp; exact hp.elim
  · exact hp.elim
end G

/-! S6: statements, loops, comprehensions. -/
namespace G
open PySem L2 PyProof.Rows

/-! ### combinators -/
/-- an expression's result as a statement's: an exception becomes a flow -/
def outE {α : Type} (L : Env) (r : Res α) (f : α → Mem → Res (Fl × Env)) : Res (Fl × Env) := match r with
  | .ok a M => f a M
  | .ex e M => .ok (.xc e, L) M
  | .no => .no
def sSeq (a b : LS) : LS := fun L M => (a L M).bind fun r M1 => match r.1 with
  | .nx => b r.2 M1
  | _ => .ok r M1
def sNil : LS := fun L M => .ok (.nx, L) M
def sBrk : LS := fun L M => .ok (.bk, L) M
def sCnt : LS := fun L M => .ok (.ct, L) M
def sEx (e : LE) : LS := fun L M => outE L (e L M) fun _ M1 => .ok (.nx, L) M1
def sSet (i : Nat) (e : LE) : LS := fun L M => outE L (e L M) fun d M1 => .ok (.nx, L.set i (some d)) M1
def sPar (is : List Nat) (a : LA) : LS := fun L M => outE L (a L M) fun ds M1 => if ds.length = is.length then .ok (.nx, (is.zip ds).foldl (fun L p => L.set p.1 (some p.2)) L) M1 else .no
def sRet (e : LE) : LS := fun L M => outE L (e L M) fun d M1 => .ok (.rt d, L) M1
def sRetN : LS := fun L M => .ok (.rt .non, L) M
def sIf (c : LT) (a b : LS) : LS := fun L M => outE L (c L M) fun k M1 => if k = true then a L M1 else b L M1
def sSub (o i v : LE) : LS := fun L M => outE L ((v L M).bind fun x M1 => (o L M1).bind fun y M2 => (i L M2).bind fun z M3 => dSet y z x M3) fun _ M1 => .ok (.nx, L) M1
def sNo : LS := fun _ _ => .no
/-- targets: a name; names of a tuple -/
inductive Pat where
  | nm (i : Nat) | tp (is : List Nat)
def Pat.put (p : Pat) (d : D) (L : Env) : Option Env := match p with
  | .nm i => some (L.set i (some d))
  | .tp is => match d with
    | .tup ds => if ds.length = is.length then some ((is.zip ds).foldl (fun L p => L.set p.1 (some p.2)) L) else none
    | _ => none
def sAsg (p : Pat) (e : LE) : LS := fun L M => outE L (e L M) fun d M1 => match p.put d L with
  | some L' => .ok (.nx, L') M1
  | none => .no
/-! what a for walks -/
inductive IV where
  | tup (ds : List D) | loc (n : Nat) | rng (lo : Int) (n : Nat) | enu (n : Nat)
def IV.at : IV → Nat → Mem → Option D
  | .tup ds, i, _ => ds[i]?
  | .loc n, i, M => match M[n]? with
    | some o => o.items[i]?
    | none => none
  | .rng lo n, i, _ => if i < n then some (.int (lo + i)) else none
  | .enu n, i, M => match M[n]? with
    | some o => o.items[i]?.map fun d => .tup [.int (i : Nat), d]
    | none => none
def IV.size : IV → Mem → Nat
  | .tup ds, _ => ds.length
  | .loc n, M => match M[n]? with
    | some o => o.items.length
    | none => 0
  | .rng _ n, _ => n
  | .enu n, M => match M[n]? with
    | some o => o.items.length
    | none => 0
abbrev LI := Env → Mem → Res IV
def iE (e : LE) : LI := fun L M => (e L M).bind fun d M1 => match d with
  | .tup ds => .ok (.tup ds) M1
  | .loc n => match M1[n]? with
    | some _ => .ok (.loc n) M1
    | none => .no
  | _ => .no
def iR1 (e : LE) : LI := fun L M => (e L M).bind fun d M1 => match d with
  | .int j => if -1000000000 ≤ j ∧ j ≤ 1000000000 then .ok (.rng 0 j.toNat) M1 else .no
  | _ => .no
def iR2 (a b : LE) : LI := fun L M => (a L M).bind fun d M1 => (b L M1).bind fun e M2 => match d, e with
  | .int i, .int j => if -1000000000 ≤ i ∧ i ≤ 1000000000 ∧ -1000000000 ≤ j ∧ j ≤ 1000000000 then .ok (.rng i (j - i).toNat) M2 else .no
  | _, _ => .no
def forL (v : IV) (p : Pat) (b : LS) : Nat → Nat → Env → Mem → Res (Fl × Env)
  | 0, _, _, _ => .no
  | f + 1, i, L, M => match v.at i M with
    | none => .ok (.nx, L) M
    | some d => match p.put d L with
      | none => .no
      | some L1 => (b L1 M).bind fun r M1 => match r.1 with
        | .nx => forL v p b f (i + 1) r.2 M1
        | .ct => forL v p b f (i + 1) r.2 M1
        | .bk => .ok (.nx, r.2) M1
        | .rt d => .ok (.rt d, r.2) M1
        | .xc e => .ok (.xc e, r.2) M1
def sFor (it : LI) (p : Pat) (b : LS) : LS := fun L M => outE L (it L M) fun v M1 => forL v p b (v.size M1 + 1) 0 L M1
def whL (c : LT) (b : LS) : Nat → Env → Mem → Res (Fl × Env)
  | 0, _, _ => .no
  | f + 1, L, M => outE L (c L M) fun k M1 => if k = true then (b L M1).bind fun r M2 => match r.1 with
      | .nx => whL c b f r.2 M2
      | .ct => whL c b f r.2 M2
      | .bk => .ok (.nx, r.2) M2
      | .rt d => .ok (.rt d, r.2) M2
      | .xc e => .ok (.xc e, r.2) M2
    else .ok (.nx, L) M1
/-- the fuel stands open: any number -/
def sWh (fuel : Nat) (c : LT) (b : LS) : LS := fun L M => whL c b fuel L M
def noX {α : Type} (r : Res α) : Res α := match r with
  | .ex _ _ => .no
  | r => r
def wipeL (L : Env) : List Nat → Env
  | [] => L
  | i :: r => (wipeL L r).set i none
/-- [te for p in v if tt]: the new list stands at n -/
def lcL (v : IV) (p : Pat) (tt : LT) (te : LE) (n : Nat) : Nat → Nat → Env → Mem → Res D
  | 0, _, _, _ => .no
  | f + 1, i, L, M => match v.at i M with
    | none => .ok (.loc n) M
    | some d => match p.put d L with
      | none => .no
      | some L1 => (noX (tt L1 M)).bind fun k M1 => if k = true then (noX (te L1 M1)).bind fun y M2 => match M2[n]? with
          | some (.lst acc) => if acc.length < big then lcL v p tt te n f (i + 1) L (M2.set n (.lst (acc ++ [y]))) else .no
          | _ => .no
        else lcL v p tt te n f (i + 1) L M1
def tY : LT := fun _ M => .ok true M
def eLc (it : LI) (p : Pat) (tt : LT) (te : LE) (vs : List Nat) : LE := fun L M => (it L M).bind fun v M1 => lcL v p tt te M1.length (v.size M1 + 1) 0 (wipeL L vs) (M1 ++ [.lst []])

/-! ### they simulate -/
section
variable [Tab] {Γ : Gx} {W : WS} {μ : Plc} {H : Hp}
theorem PstS.shift {μ1 : Plc} {H1 : Hp} {r : Res (Fl × Env)} {D : Ends} (e : Ext μ μ1) (t : Tk Γ.K H H1) (h : PstS Γ W μ H r D) : PstS Γ W μ1 H1 r D := by
  cases r with
  | ok a M => obtain ⟨fl, L⟩ := a; exact fun μ' σ' H' e' t' m q => h μ' σ' H' (e.trans e') (t.trans t') m q
  | ex x M => exact fun μ' σ' H' c d e' t' m q => h μ' σ' H' c d (e.trans e') (t.trans t') m q
  | no => exact h
/-- an expression ahead of a statement's end -/
theorem PstS.outE {α β : Type} {R : Plc → Hp → α → β → Prop} {L : Env} {σ : L2.St} {r : Res α} {f : α → Mem → Res (Fl × Env)} {D : Ends} {Q : β → Hp → Prop} (h : PstS Γ W μ H (G.outE L r f) D) (hs : Rs Γ.K μ H L σ)
    (k : ∀ a M1 μ1 b H1, r = .ok a M1 → Ext μ μ1 → Tk Γ.K H H1 → RM Γ.K μ1 H1 M1 → R μ1 H1 a b → PstS Γ W μ1 H1 (f a M1) D → Q b H1) : Pst Γ (W σ) R μ H r Q := by
  cases r with
  | ok a M => exact fun μ' b H' e t m q => k a M μ' b H' rfl e t m q (PstS.shift e t h)
  | ex x M => exact fun μ' H' c d e t m q => h μ' σ H' e t m (hs.mono e t) c d q
  | no => exact h
theorem PstS.next {L : Env} {M : Mem} {σ : L2.St} {D : Ends} (h : PstS Γ W μ H (.ok (.nx, L) M) D) (m : RM Γ.K μ H M) (hs : Rs Γ.K μ H L σ) : D.nx σ H := h μ σ H (Ext.refl _) (Tk.refl _ _) m hs
end

section
variable [Tab] {X : Cx} {Γ : Gx} {ce : Nat → Addr × List Str} {W : WS} {e o i : Expr} {es : List Expr} {me mo mi : LE} {ml : LA} {pos : Pos} {st : Stmt} {rest a b : List Stmt} {ma mb : LS}
theorem psm_nil : PSs X [] (tGS Γ W sNil) := pss_imp pss_nil fun _ _ _ ⟨_, _, _, hs, hm, hp⟩ => hp.next hm hs
theorem step_seq {D : Ends} {σ : L2.St} {H : Hp} (h : tGS Γ W (sSeq ma mb) D σ H) : tSeq (tGS Γ W ma) (tGS Γ W mb) D σ H := by
  obtain ⟨μ, L, M, hs, hm, hp⟩ := h
  refine ⟨μ, L, M, hs, hm, ?_⟩
  unfold sSeq at hp
  cases q : ma L M with
  | no => rw [q] at hp; exact hp
  | ex x M1 => rw [q] at hp; exact hp
  | ok r M1 =>
    rw [q] at hp
    obtain ⟨fl, L1⟩ := r
    cases fl with
    | nx => exact fun μ' σ' H' e t m s => ⟨μ', L1, M1, s, m, PstS.shift e t hp⟩
    | _ => exact hp
theorem psm_cons (h1 : PS X st (tGS Γ W ma)) (h2 : PSs X rest (tGS Γ W mb)) : PSs X (st :: rest) (tGS Γ W (sSeq ma mb)) := pss_imp (pss_cons h1 h2) fun _ _ _ h => step_seq h
theorem psm_one (h1 : PS X st (tGS Γ W ma)) : PSs X [st] (tGS Γ W ma) := pss_one h1
theorem psm_pass : PS X (.Pass pos) (tGS Γ W sNil) := ps_imp ps_pass fun _ _ _ ⟨_, _, _, hs, hm, hp⟩ => hp.next hm hs
theorem psm_brk : PS X (.Break pos) (tGS Γ W sBrk) := ps_imp ps_break fun _ σ H ⟨μ, _, _, hs, hm, hp⟩ => hp μ σ H (Ext.refl _) (Tk.refl _ _) hm hs
theorem psm_cnt : PS X (.Continue pos) (tGS Γ W sCnt) := ps_imp ps_continue fun _ σ H ⟨μ, _, _, hs, hm, hp⟩ => hp μ σ H (Ext.refl _) (Tk.refl _ _) hm hs
theorem psm_doc {x j pos'} : PS X (.Expr (.Constant (.str x) j pos) pos') (tGS Γ W sNil) := ps_imp ps_doc fun _ _ _ ⟨_, _, _, hs, hm, hp⟩ => hp.next hm hs
theorem psm_never : PS X st (tGS Γ W sNo) := ps_imp ps_never fun _ _ _ ⟨_, _, _, _, _, hp⟩ => hp
theorem psm_nevers : PSs X a (tGS Γ W sNo) := pss_imp pss_never fun _ _ _ ⟨_, _, _, _, _, hp⟩ => hp
theorem psm_expr (he : PE X e (tG Γ W me)) (hs : swapsWith e none pos.line X.env = pure false := by rfl) : PS X (.Expr e pos) (tGS Γ W (sEx me)) :=
  ps_imp (ps_expr he hs) fun _ σ H h => by
    obtain ⟨μ, L, M, hs, hm, hp⟩ := h
    exact ⟨μ, L, M, hs, hm, hp.outE hs fun d M1 μ1 v H1 _ e1 t1 m1 r1 hp1 => hp1.next m1 (hs.mono e1 t1)⟩
theorem psm_ret (he : PE X e (tG Γ W me)) : PS X (.Return (some e) pos) (tGS Γ W (sRet me)) :=
  ps_imp (ps_ret he) fun _ σ H h => by
    obtain ⟨μ, L, M, hs, hm, hp⟩ := h
    exact ⟨μ, L, M, hs, hm, hp.outE hs fun d M1 μ1 v H1 _ e1 t1 m1 r1 hp1 => hp1 μ1 σ H1 (Ext.refl _) (Tk.refl _ _) m1 (hs.mono e1 t1) v r1⟩
theorem psm_retN : PS X (.Return none pos) (tGS Γ W sRetN) :=
  ps_imp ps_retN fun _ σ H h => by
    obtain ⟨μ, L, M, hs, hm, hp⟩ := h
    exact hp μ σ H (Ext.refl _) (Tk.refl _ _) hm hs _ rv_non
theorem psm_if {c : Expr} {t : LT} (hc : PT X c (tGT Γ W t)) (ha : PSs X a (tGS Γ W ma)) (hb : PSs X b (tGS Γ W mb)) : PS X (.If c a b pos) (tGS Γ W (sIf t ma mb)) :=
  ps_imp (ps_if hc ha hb) fun _ σ H h => by
    obtain ⟨μ, L, M, hs, hm, hp⟩ := h
    refine ⟨μ, L, M, hs, hm, hp.outE hs fun k M1 μ1 v H1 _ e1 t1 m1 r1 hp1 => ?_⟩
    obtain rfl : k = v := r1
    cases k with
    | true => exact iteT ⟨μ1, L, M1, hs.mono e1 t1, m1, hp1⟩
    | false => exact iteF ⟨μ1, L, M1, hs.mono e1 t1, m1, hp1⟩
/-! targets -/
def gNames : List Nat → TGs
  | [] => gNil
  | i :: r => gCons (gName i) (gNames r)
def Pat.rd (K : PySem.W.Frag) : Pat → TG
  | .nm i => gName i
  | .tp is => gTup K is.length (gNames is)
theorem wipe_in {σ : L2.St} {j : Nat} : ∀ {us : List Nat}, j ∈ us → (L2.wipe σ us)[j]? = if j < σ.length then some none else none
  | [], h => by cases h
  | i :: r, h => by
    unfold L2.wipe
    by_cases e : i = j
    · subst e
      by_cases hi : i < σ.length
      · rw [List.getElem?_set_self (by rw [L2.wipe_length]; exact hi), if_pos hi]
      · rw [if_neg hi, List.getElem?_eq_none (by rw [List.length_set, L2.wipe_length]; omega)]
    · rw [List.getElem?_set_ne e]
      exact wipe_in ((List.mem_cons.mp h).resolve_left (Ne.symm e))
theorem wipe_ext {σ τ : L2.St} {us : List Nat} (hl : σ.length = τ.length) (h : ∀ j, j ∉ us → σ[j]? = τ[j]?) : L2.wipe σ us = L2.wipe τ us := by
  refine List.ext_getElem? fun j => ?_
  by_cases q : j ∈ us
  · rw [wipe_in q, wipe_in q, hl]
  · rw [L2.wipe_out q, L2.wipe_out q, h j q]
theorem wipe_set {σ : L2.St} {x : V} {i : Nat} {us : List Nat} (h : i ∈ us) : L2.wipe (σ.set i (some x)) us = L2.wipe σ us :=
  wipe_ext (List.length_set) fun j hj => List.getElem?_set_ne fun e => hj (by rw [← e]; exact h)
theorem Rs.wipe {K : PySem.W.Frag} {μ : Plc} {H : Hp} {L : Env} {σ : L2.St} (r : Rs K μ H L σ) : ∀ vs : List Nat, Rs K μ H (wipeL L vs) (L2.wipe σ vs)
  | [] => r
  | i :: vs => by
    have ih := Rs.wipe r vs
    unfold wipeL L2.wipe
    refine ⟨by rw [List.length_set, List.length_set]; exact ih.1, fun j d h => ?_⟩
    by_cases e : i = j
    · subst e
      by_cases hi : i < (wipeL L vs).length
      · rw [List.getElem?_set_self hi] at h; cases h
      · rw [List.getElem?_eq_none (by rw [List.length_set]; omega)] at h; cases h
    · rw [List.getElem?_set_ne e] at h ⊢
      exact ih.2 j d h
theorem names_put {K : PySem.W.Frag} {μ : Plc} {H : Hp} : ∀ {is : List Nat} {ds : List D} {vs : List V} {L : Env} {σ : L2.St} {Q : L2.St → Hp → Prop}, Rvs K μ H ds vs → ds.length = is.length → Rs K μ H L σ →
    (∀ σ', Rs K μ H ((is.zip ds).foldl (fun L p => L.set p.1 (some p.2)) L) σ' → (∀ us : List Nat, (∀ i ∈ is, i ∈ us) → L2.wipe σ' us = L2.wipe σ us) → Q σ' H) → gNames is vs σ H Q
  | [], ds, vs, L, σ, Q, r, e, hs, k => by
    have e0 : ds = [] := List.eq_nil_of_length_eq_zero e
    subst e0
    exact ⟨r.nil, k σ hs fun _ _ => rfl⟩
  | i :: is, ds, vs, L, σ, Q, r, e, hs, k => by
    cases ds with
    | nil => cases e
    | cons d ds =>
      obtain ⟨v, t, rfl, h1, h2⟩ := r.uncons
      refine ⟨v, t, rfl, names_put (is := is) h2 (by simpa using e) (hs.set h1 i) fun σ' hs' hw => ?_⟩
      refine k σ' hs' fun us hu => ?_
      rw [hw us fun j hj => hu j (List.mem_cons_of_mem _ hj)]
      exact wipe_set (hu i (List.mem_cons_self ..))
theorem pat_put {K : PySem.W.Frag} {μ : Plc} {H : Hp} {p : Pat} {d : D} {v : V} {L L' : Env} {σ : L2.St} {Q : L2.St → Hp → Prop} (hp : p.put d L = some L') (r : Rv K μ H d v) (hs : Rs K μ H L σ)
    (k : ∀ σ', Rs K μ H L' σ' → (∀ us : List Nat, (∀ i ∈ (match p with | .nm i => [i] | .tp is => is), i ∈ us) → L2.wipe σ' us = L2.wipe σ us) → Q σ' H) : p.rd K v σ H Q := by
  cases p with
  | nm i =>
    cases hp
    exact k _ (hs.set r i) fun us hu => wipe_set (hu i (by simp))
  | tp is =>
    cases d with
    | tup ds =>
      unfold Pat.put at hp
      by_cases q : ds.length = is.length
      · simp only [q, if_true] at hp
        cases hp
        obtain ⟨a, vs, rfl, h1, h2⟩ := r.tup
        exact ⟨a, vs, rfl, h1, by rw [h2.length]; exact q, names_put h2 q hs k⟩
      · simp only [q, if_false] at hp; cases hp
    | _ => cases hp
theorem psm_asg {tg : Expr} {p : Pat} (he : PE X e (tG ⟨X.K, ce⟩ W me)) (hg : PG X tg (p.rd X.K)) (hs : swapsWithSole [tg] e pos.line X.env = pure false := by rfl) (hw : swappedStores [tg] e X.env = pure none := by rfl)
    (h1 : (assignEach [tg] X.env).map (·.2) = [assign tg X.env] := by rfl) :
    PS X (.Assign [tg] e pos) (tGS ⟨X.K, ce⟩ W (sAsg p me)) :=
  ps_imp (ps_asg he hg hs hw h1) fun D σ H h => by
    obtain ⟨μ, L, M, hs, hm, hp⟩ := h
    refine ⟨μ, L, M, hs, hm, hp.outE hs fun d M1 μ1 v H1 _ e1 t1 m1 r1 hp1 => ?_⟩
    cases q : p.put d L with
    | none => simp only [q] at hp1; exact hp1.elim
    | some L' =>
      simp only [q] at hp1
      exact pat_put q r1 (hs.mono e1 t1) fun σ' hs' _ => hp1.next m1 hs'
/-- name = e -/
theorem psm_set {j : Nat} {x : Str} {p : Pos} (hN : X.N.Nodup) (hi : X.N[j]? = some x) (hx : Loc X.env.scope x) (he : PE X e (tG Γ W me)) (hs : swapsWith e (some (.Name x p)) pos.line X.env = pure false := by rfl) (hf : X.fn x = true ∨ X.env.scope.names.lookup x = some .local := by first | exact .inl rfl | exact .inr rfl) :
    PS X (.Assign [.Name x p] e pos) (tGS Γ W (sSet j me)) :=
  ps_imp (ps_set hN hi hx he hs hf) fun D σ H h => by
    obtain ⟨μ, L, M, hs, hm, hp⟩ := h
    refine ⟨μ, L, M, hs, hm, hp.outE hs fun d M1 μ1 v H1 _ e1 t1 m1 r1 hp1 => ?_⟩
    exact hp1.next m1 ((hs.mono e1 t1).set r1 j)
/-- a, b = e1, e2 -/
theorem psm_par {j k : Nat} {x y : Str} {c d : Expr} {px py pt : Pos} {kt k2 pt2} (hc : X.calm = true) (hN : X.N.Nodup) (hi : X.N[j]? = some x) (hj : X.N[k]? = some y) (hij : j ≠ k)
    (hx : X.env.scope.names.lookup x = some .local) (hy : X.env.scope.names.lookup y = some .local) (ha : PA X [c, d] (tGA Γ W ml))
    (hw : swappedStores [.Tuple [.Name x px, .Name y py] kt pt] (.Tuple [c, d] k2 pt2) X.env = pure (some [x, y]))
    (hs : swapsWithSole [.Tuple [.Name x px, .Name y py] kt pt] (.Tuple [c, d] k2 pt2) pos.line X.env = pure false := by rfl) :
    PS X (.Assign [.Tuple [.Name x px, .Name y py] kt pt] (.Tuple [c, d] k2 pt2) pos) (tGS Γ W (sPar [j, k] ml)) :=
  ps_imp (ps_par hc hN hi hj hij hx hy ha hw hs) fun D σ H h => by
    obtain ⟨μ, L, M, hs, hm, hp⟩ := h
    refine ⟨μ, L, M, hs, hm, hp.outE hs fun ds M1 μ1 vs H1 _ e1 t1 m1 r1 hp1 => ?_⟩
    match ds, r1, hp1 with
    | [d1, d2], r1, hp1 =>
      obtain ⟨v1, t, rfl, h1, h2⟩ := r1.uncons
      obtain ⟨v2, rfl, h3⟩ := h2.one
      exact ⟨v1, v2, rfl, hp1.next m1 (((hs.mono e1 t1).set h1 j).set h3 k)⟩
    | [], _, hp1 => exact hp1.elim
    | [_], _, hp1 => exact hp1.elim
    | _ :: _ :: _ :: _, _, hp1 => exact (show False by simp at hp1; exact hp1).elim
theorem psm_par3 {j k l : Nat} {x y z : Str} {c d f : Expr} {px py pz pt : Pos} {kt k2 pt2} (hc : X.calm = true) (hN : X.N.Nodup) (hi : X.N[j]? = some x) (hj : X.N[k]? = some y) (hl : X.N[l]? = some z) (hij : j ≠ k) (hil : j ≠ l) (hjl : k ≠ l)
    (hx : X.env.scope.names.lookup x = some .local) (hy : X.env.scope.names.lookup y = some .local) (hz : X.env.scope.names.lookup z = some .local) (ha : PA X [c, d, f] (tGA Γ W ml))
    (hw : swappedStores [.Tuple [.Name x px, .Name y py, .Name z pz] kt pt] (.Tuple [c, d, f] k2 pt2) X.env = pure (some [x, y, z]))
    (hs : swapsWithSole [.Tuple [.Name x px, .Name y py, .Name z pz] kt pt] (.Tuple [c, d, f] k2 pt2) pos.line X.env = pure false := by rfl) :
    PS X (.Assign [.Tuple [.Name x px, .Name y py, .Name z pz] kt pt] (.Tuple [c, d, f] k2 pt2) pos) (tGS Γ W (sPar [j, k, l] ml)) :=
  ps_imp (ps_par3 hc hN hi hj hl hij hil hjl hx hy hz ha hw hs) fun D σ H h => by
    obtain ⟨μ, L, M, hs, hm, hp⟩ := h
    refine ⟨μ, L, M, hs, hm, hp.outE hs fun ds M1 μ1 vs H1 _ e1 t1 m1 r1 hp1 => ?_⟩
    match ds, r1, hp1 with
    | [d1, d2, d3], r1, hp1 =>
      obtain ⟨v1, t, rfl, h1, h2⟩ := r1.uncons
      obtain ⟨v2, t, rfl, h3, h4⟩ := h2.uncons
      obtain ⟨v3, rfl, h5⟩ := h4.one
      exact ⟨v1, v2, v3, rfl, hp1.next m1 ((((hs.mono e1 t1).set h1 j).set h3 k).set h5 l)⟩
    | [], _, hp1 => exact hp1.elim
    | [_], _, hp1 => exact hp1.elim
    | [_, _], _, hp1 => exact hp1.elim
    | _ :: _ :: _ :: _ :: _, _, hp1 => exact (show False by simp at hp1; exact hp1).elim
/-- o[i] = e -/
theorem psm_sub {tp : Pos} (hu : X.A.units + 64 < cLine) (he : PE X e (tG ⟨X.K, ce⟩ W me)) (ho : PE X o (tG ⟨X.K, ce⟩ W mo)) (hi : PE X i (tG ⟨X.K, ce⟩ W mi))
    (hq : ∀ v, assign (.Subscript o i tp) X.env v = (do
      let ov ← holding [v] (eval o X.env)
      let iv ← holding [v, ov] (eval i X.env)
      standAt tp
      holding [v, ov, iv] (setItem ov iv v)
      release [v, ov, iv] []) := by intro _; rfl)
    (hs : swapsWithSole [.Subscript o i tp] e pos.line X.env = pure false := by rfl) (hw : swappedStores [.Subscript o i tp] e X.env = pure none := by rfl) :
    PS X (.Assign [.Subscript o i tp] e pos) (tGS ⟨X.K, ce⟩ W (sSub mo mi me)) :=
  ps_imp (ps_asg he (pg_sub ho hi (set_G (ce := ce) hu) hq) hs hw) fun D σ H h => by
    obtain ⟨μ, L, M, hs, hm, hp⟩ := h
    have hp1 : Pst ⟨X.K, ce⟩ (W σ) (fun _ _ (_ : Unit) (_ : Unit) => True) μ H ((me L M).bind fun x M1 => (mo L M1).bind fun y M2 => (mi L M2).bind fun z M3 => dSet y z x M3) (fun _ H' => D.nx σ H') :=
      hp.outE hs fun d M1 μ1 v H1 _ e1 t1 m1 r1 hp1 => hp1.next m1 (hs.mono e1 t1)
    refine ⟨μ, L, M, hs, hm, hp1.bind fun x M1 μ1 v H1 _ e1 t1 m1 r1 hp2 => ?_⟩
    refine ⟨μ1, L, M1, hs.mono e1 t1, m1, hp2.bind fun y M2 μ2 u H2 _ e2 t2 m2 r2 hp3 => ?_⟩
    refine ⟨μ2, L, M2, hs.mono (e1.trans e2) (t1.trans t2), m2, hp3.bind fun z M3 μ3 t H3 _ e3 t3 m3 r3 hp4 => ?_⟩
    have r2' := r2.mono e3 t3
    have r1' := r1.mono (e2.trans e3) (t2.trans t3)
    exact ⟨μ3, M3, y, z, x, m3, r2', r3, r1', hp4.loose⟩

/-! ### loops -/
def iEn (e : LE) : LI := fun L M => (e L M).bind fun d M1 => match d with
  | .loc n => match M1[n]? with
    | some _ => .ok (.enu n) M1
    | none => .no
  | _ => .no
def RI (K : PySem.W.Frag) (μ : Plc) (H : Hp) (v : IV) (J : It) : Prop := match v with
  | .tup ds => ∃ a vs, J = Itt K a ∧ SqT K H a vs ∧ Rvs K μ H ds vs
  | .loc n => ∃ a, J = Itl K a ∧ μ[n]? = some (a, true)
  | .rng lo n => J = Itr lo n
  | .enu n => ∃ a, J = Ite K a ∧ μ[n]? = some (a, true)
theorem RI.mono {K : PySem.W.Frag} {μ μ' : Plc} {H H' : Hp} {v : IV} {J : It} (e : Ext μ μ') (t : Tk K H H') (r : RI K μ H v J) : RI K μ' H' v J := by
  cases v with
  | tup ds => obtain ⟨a, vs, h1, h2, h3⟩ := r; exact ⟨a, vs, h1, t _ _ h2, h3.mono e t⟩
  | loc n => obtain ⟨a, h1, h2⟩ := r; exact ⟨a, h1, e n _ h2⟩
  | rng lo n => exact r
  | enu n => obtain ⟨a, h1, h2⟩ := r; exact ⟨a, h1, e n _ h2⟩
/-- an item is there -/
theorem ri_some {K : PySem.W.Frag} {μ : Plc} {H : Hp} {M : Mem} {v : IV} {J : It} {i : Nat} {d : D} (m : RM K μ H M) (r : RI K μ H v J) (h : v.at i M = some d) : J.go i H ∧ ∀ x H', J.yld i H x H' → Tk K H H' ∧ RM K μ H' M ∧ Rv K μ H' d x := by
  cases v with
  | tup ds =>
    obtain ⟨a, vs, rfl, h2, h3⟩ := r
    obtain ⟨w, q1, q2⟩ := h3.get (i := i) h
    refine ⟨⟨vs, w, h2, q1⟩, fun x H' y => ?_⟩
    obtain ⟨rfl, y2⟩ := y
    have := y2 vs h2
    rw [q1] at this; cases this
    exact ⟨Tk.refl _ _, m, q2⟩
  | loc n =>
    obtain ⟨a, rfl, h2⟩ := r
    unfold IV.at at h
    cases q : M[n]? with
    | none => simp only [q] at h; cases h
    | some o =>
      simp only [q] at h
      obtain ⟨vs, g1, g2⟩ := m.sql h2 q
      obtain ⟨w, q1, q2⟩ := g2.get h
      refine ⟨⟨vs, w, g1, q1⟩, fun x H' y => ?_⟩
      obtain ⟨rfl, y2⟩ := y
      have := y2 vs g1
      rw [q1] at this; cases this
      exact ⟨Tk.refl _ _, m, q2⟩
  | rng lo n =>
    cases r
    unfold IV.at at h
    by_cases q : i < n
    · simp only [q, if_true] at h
      cases h
      refine ⟨q, fun x H' y => ?_⟩
      obtain ⟨rfl, y2⟩ := y
      exact ⟨Tk.refl _ _, m, by rw [y2]; exact rv_int _⟩
    · simp only [q, if_false] at h; cases h
  | enu n =>
    obtain ⟨a, rfl, h2⟩ := r
    unfold IV.at at h
    cases q : M[n]? with
    | none => simp only [q] at h; cases h
    | some o =>
      simp only [q] at h
      obtain ⟨vs, g1, g2⟩ := m.sql h2 q
      cases q3 : o.items[i]? with
      | none => rw [q3] at h; cases h
      | some z =>
        rw [q3] at h; cases h
        obtain ⟨w, q1, q2⟩ := g2.get q3
        refine ⟨⟨vs, w, g1, q1⟩, fun x H' y => ?_⟩
        obtain ⟨T, x', rfl, hT, rfl, y2⟩ := y
        have := y2 vs g1
        rw [q1] at this; cases this
        exact ⟨Tk.new hT, m.keep hT, rv_tup (SqT.of upd_same) (rvs_cons (rv_int _) (rvs_cons (q2.mono (Ext.refl _) (Tk.new hT)) rvs_nil))⟩
/-- none is left -/
theorem ri_none {K : PySem.W.Frag} {μ : Plc} {H : Hp} {M : Mem} {v : IV} {J : It} {i : Nat} (m : RM K μ H M) (r : RI K μ H v J) (h : v.at i M = none) : J.stop i H := by
  cases v with
  | tup ds =>
    obtain ⟨a, vs, rfl, h2, h3⟩ := r
    refine ⟨vs, h2, ?_⟩
    rw [h3.length]
    exact List.getElem?_eq_none_iff.mp h
  | loc n =>
    obtain ⟨a, rfl, h2⟩ := r
    have hn : n < M.length := by rw [← m.len]; exact (List.getElem?_eq_some_iff.mp h2).1
    unfold IV.at at h
    simp only [List.getElem?_eq_getElem hn] at h
    obtain ⟨vs, g1, g2⟩ := m.sql h2 (List.getElem?_eq_getElem hn)
    refine ⟨vs, g1, ?_⟩
    rw [g2.length]
    exact List.getElem?_eq_none_iff.mp h
  | rng lo n =>
    cases r
    unfold IV.at at h
    by_cases q : i < n
    · simp only [q, if_true] at h; cases h
    · show n ≤ i; omega
  | enu n =>
    obtain ⟨a, rfl, h2⟩ := r
    have hn : n < M.length := by rw [← m.len]; exact (List.getElem?_eq_some_iff.mp h2).1
    unfold IV.at at h
    simp only [List.getElem?_eq_getElem hn] at h
    obtain ⟨vs, g1, g2⟩ := m.sql h2 (List.getElem?_eq_getElem hn)
    refine ⟨vs, g1, ?_⟩
    rw [g2.length]
    cases q3 : M[n].items[i]? with
    | none => exact List.getElem?_eq_none_iff.mp q3
    | some z => rw [q3] at h; cases h
def tGI (Γ : Gx) (W : WS) (m : LI) : TI := fun σ H R => ∃ μ L M, Rs Γ.K μ H L σ ∧ RM Γ.K μ H M ∧ Pst Γ (W σ) (fun μ H v J => RI Γ.K μ H v J) μ H (m L M) R
theorem pi_imp {tg it : Expr} {t t' : TI} (h : PI X tg it t) (k : ∀ σ H Q, t' σ H Q → t σ H Q) : PI X tg it t' := ⟨fun pins s σ H Q I q => h.run pins s σ H Q I (k σ H Q q)⟩
/-- a list or a tuple is walked -/
theorem pim_e {tg : Expr} (he : PE X e (tG ⟨X.K, ce⟩ W me)) : PI X tg e (tGI ⟨X.K, ce⟩ W (iE me)) := by
  refine ⟨fun pins s σ H R I h => ?_⟩
  obtain ⟨μ, L, M, hs, hm, hp⟩ := h
  unfold iE at hp
  cases q : me L M with
  | no => rw [q] at hp; exact hp.elim
  | ex x M1 =>
    rw [q] at hp
    refine (pi_list (tg := tg) he).run pins s σ H R I ⟨μ, L, M, hs, hm, ?_⟩
    rw [q]; exact hp
  | ok d M1 =>
    rw [q] at hp
    cases d with
    | tup ds =>
      refine (pi_tup (tg := tg) he).run pins s σ H R I ⟨μ, L, M, hs, hm, ?_⟩
      rw [q]
      intro μ1 v H1 e1 t1 m1 r1
      obtain ⟨a, vs, rfl, h1, h2⟩ := r1.tup
      exact ⟨a, rfl, ⟨vs, h1⟩, hp μ1 _ H1 e1 t1 m1 ⟨a, vs, rfl, h1, h2⟩⟩
    | loc n =>
      refine (pi_list (tg := tg) he).run pins s σ H R I ⟨μ, L, M, hs, hm, ?_⟩
      rw [q]
      intro μ1 v H1 e1 t1 m1 r1
      obtain ⟨a, rfl, h1⟩ := r1.loc
      simp only [Res.bind] at hp
      cases q2 : M1[n]? with
      | none => simp only [q2] at hp; exact hp.elim
      | some o =>
        simp only [q2] at hp
        obtain ⟨vs, g1, g2⟩ := m1.sql h1 q2
        exact ⟨a, rfl, ⟨vs, g1⟩, hp μ1 _ H1 e1 t1 m1 ⟨a, rfl, h1⟩⟩
    | _ => exact hp.elim
theorem pim_r1 {tg : Expr} {p : Pos} (hg : Gl X "range") (hm : X.mg "range" = none) (he : PE X e (tG Γ W me)) (hs : starEach [e] X.env = [(false, eval e X.env)] := by rfl) (hs1 : starEach [e] X.env = (false, eval e X.env) :: starEach [] X.env := by rfl) :
    PI X tg (.Call (.Name "range" p) [e] [] pos) (tGI Γ W (iR1 me)) :=
  pi_imp (pi_range1 hg hm (pa_cons he pa_nil hs1) hs) fun σ H R h => by
    obtain ⟨μ, L, M, hs, hm, hp⟩ := h
    refine ⟨μ, L, M, hs, hm, hp.bind fun d M1 μ1 v H1 _ e1 t1 m1 r1 hp1 => ?_⟩
    cases d with
    | int j =>
      simp only at hp1
      by_cases q : -1000000000 ≤ j ∧ j ≤ 1000000000
      · simp only [q, and_self, if_true] at hp1
        obtain rfl := r1.int
        exact ⟨j, rfl, by omega, by omega, hp1.here m1 rfl⟩
      · simp only [q, if_false] at hp1; exact hp1.elim
    | _ => exact hp1.elim
theorem pim_r2 {tg f : Expr} {mf : LE} {p : Pos} (hg : Gl X "range") (hm : X.mg "range" = none) (he : PE X e (tG Γ W me)) (hf : PE X f (tG Γ W mf)) (hs : starEach [e, f] X.env = [(false, eval e X.env), (false, eval f X.env)] := by rfl) (hs2 : starEach [f] X.env = [(false, eval f X.env)] := by rfl)
    (hs1 : starEach [e, f] X.env = (false, eval e X.env) :: starEach [f] X.env := by rfl) (hs3 : starEach [f] X.env = (false, eval f X.env) :: starEach [] X.env := by rfl) :
    PI X tg (.Call (.Name "range" p) [e, f] [] pos) (tGI Γ W (iR2 me mf)) :=
  pi_imp (pi_range2 hg hm (pa_cons he (pa_cons hf pa_nil hs3) hs1) hs hs2) fun σ H R h => by
    obtain ⟨μ, L, M, hs, hm, hp⟩ := h
    refine ⟨μ, L, M, hs, hm, hp.bind fun d M1 μ1 v H1 _ e1 t1 m1 r1 hp1 => ?_⟩
    refine ⟨μ1, L, M1, hs.mono e1 t1, m1, hp1.bind fun d2 M2 μ2 u H2 _ e2 t2 m2 r2 hp2 => ?_⟩
    cases d with
    | int i =>
      cases d2 with
      | int j =>
        simp only at hp2
        by_cases q : -1000000000 ≤ i ∧ i ≤ 1000000000 ∧ -1000000000 ≤ j ∧ j ≤ 1000000000
        · simp only [q, and_self, if_true] at hp2
          obtain rfl := r1.int
          obtain rfl := r2.int
          exact ⟨i, j, rfl, by omega, hp2.here m2 rfl⟩
        · simp only [q, if_false] at hp2; exact hp2.elim
      | _ => exact hp2.elim
    | _ => exact hp2.elim
/-- for p in it: b -/
theorem psm_for {tg it : Expr} {p : Pat} {mit : LI} (hpo : PassesOwn (model X.prog X.w) X.A X.env X.xe) (hc : X.calm = true) (hi : PI X tg it (tGI ⟨X.K, ce⟩ W mit)) (hg : PG X tg (p.rd X.K)) (hb : PSs X b (tGS ⟨X.K, ce⟩ W mb))
    (hs : ∀ x, foldedSetIterable it X.env x = pure x := by intro _; rfl) : PS X (.For tg it b [] pos) (tGS ⟨X.K, ce⟩ W (sFor mit p mb)) :=
  ps_imp (ps_for hpo hc hi hg hb hs) fun D σ H h => by
    obtain ⟨μ, L, M, hs, hm, hp⟩ := h
    refine ⟨μ, L, M, hs, hm, hp.outE hs fun v M1 μ1 J H1 _ e1 t1 m1 r1 hp1 => ?_⟩
    refine ⟨fun i f σ H => ∃ μ L M, Rs X.K μ H L σ ∧ RM X.K μ H M ∧ RI X.K μ H v J ∧ PstS ⟨X.K, ce⟩ W μ H (forL v p mb f i L M) D, ⟨_, μ1, L, M1, hs.mono e1 t1, m1, r1, hp1⟩, ?_⟩
    rintro i f σ2 H2 ⟨μ2, L2, M2, s2, m2, r2, p2⟩
    cases f with
    | zero => exact p2.elim
    | succ f =>
      unfold forL at p2
      cases q : v.at i M2 with
      | none =>
        simp only [q] at p2
        exact .inl ⟨ri_none m2 r2 q, p2.next m2 s2⟩
      | some d =>
        simp only [q] at p2
        obtain ⟨g1, g2⟩ := ri_some m2 r2 q
        refine .inr ⟨g1, fun σ H => ∃ μ L M, Rs X.K μ H L σ ∧ RM X.K μ H M ∧ RI X.K μ H v J ∧ PstS ⟨X.K, ce⟩ W μ H (forL v p mb f (i + 1) L M) D, fun σ' H' z => ⟨f, Nat.lt_succ_self _, z⟩, fun x H' y => ?_⟩
        obtain ⟨t0, m2, rx⟩ := g2 x H' y
        have s2 := s2.mono (Ext.refl _) t0
        have r2 := r2.mono (Ext.refl _) t0
        have p2 := PstS.shift (Ext.refl _) t0 p2
        simp only [Res.bind] at p2
        cases q3 : p.put d L2 with
        | none => simp only [q3] at p2; exact p2.elim
        | some L3 =>
          simp only [q3] at p2
          refine pat_put q3 rx s2 fun σ' hs' _ => ⟨μ2, L3, M2, hs', m2, ?_⟩
          cases q4 : mb L3 M2 with
          | no => rw [q4] at p2; exact p2.elim
          | ex e M => rw [q4] at p2; exact p2
          | ok r M =>
            rw [q4] at p2
            obtain ⟨fl, L5⟩ := r
            cases fl with
            | nx => exact fun μ' σ' H' e t m s => ⟨μ', L5, M, s, m, r2.mono e t, PstS.shift e t p2⟩
            | ct => exact fun μ' σ' H' e t m s => ⟨μ', L5, M, s, m, r2.mono e t, PstS.shift e t p2⟩
            | bk => exact p2
            | rt d => exact p2
            | xc e => exact p2
/-- while c: b -/
theorem psm_wh {c : Expr} {t : LT} (fuel : Nat) (hpo : PassesOwn (model X.prog X.w) X.A X.env X.xe) (hc : PT X c (tGT Γ W t)) (hb : PSs X b (tGS Γ W mb)) : PS X (.While c b [] pos) (tGS Γ W (sWh fuel t mb)) :=
  ps_imp (ps_while hpo hc hb) fun D σ H h => by
    obtain ⟨μ, L, M, hs, hm, hp⟩ := h
    refine ⟨fun f σ H => ∃ μ L M, Rs Γ.K μ H L σ ∧ RM Γ.K μ H M ∧ PstS Γ W μ H (whL t mb f L M) D, ⟨_, μ, L, M, hs, hm, hp⟩, ?_⟩
    rintro f σ2 H2 ⟨μ2, L2, M2, s2, m2, p2⟩
    cases f with
    | zero => exact p2.elim
    | succ f =>
      unfold whL at p2
      refine ⟨μ2, L2, M2, s2, m2, p2.outE s2 fun k M3 μ3 k' H3 _ e3 t3 m3 r3 p3 => ?_⟩
      obtain rfl : k = k' := r3
      cases k with
      | false => exact iteF (PstS.next p3 m3 (s2.mono e3 t3))
      | true =>
        refine iteT ⟨fun σ H => ∃ μ L M, Rs Γ.K μ H L σ ∧ RM Γ.K μ H M ∧ PstS Γ W μ H (whL t mb f L M) D, fun σ' H' z => ⟨f, Nat.lt_succ_self _, z⟩, μ3, L2, M3, s2.mono e3 t3, m3, ?_⟩
        simp only [if_true] at p3
        cases q4 : mb L2 M3 with
        | no => rw [q4] at p3; exact p3.elim
        | ex e M => rw [q4] at p3; exact p3
        | ok r M =>
          rw [q4] at p3
          obtain ⟨fl, L5⟩ := r
          cases fl with
          | nx => exact fun μ' σ' H' e t m s => ⟨μ', L5, M, s, m, PstS.shift e t p3⟩
          | ct => exact fun μ' σ' H' e t m s => ⟨μ', L5, M, s, m, PstS.shift e t p3⟩
          | bk => exact p3
          | rt d => exact p3
          | xc e => exact p3

/-! ### comprehensions -/
abbrev W0 : WS := fun _ _ _ _ => False
theorem Pst.bindX {α β γ δ : Type} {E : XK} {R : Plc → Hp → α → β → Prop} {R' : Plc → Hp → γ → δ → Prop} {μ : Plc} {H : Hp} {r : Res α} {f : α → Mem → Res γ} {Q : δ → Hp → Prop} {Q' : β → Hp → Prop} {σ : L2.St} (h : Pst Γ E R' μ H ((noX r).bind f) Q)
    (k : ∀ a M1 μ1 b H1, r = .ok a M1 → Ext μ μ1 → Tk Γ.K H H1 → RM Γ.K μ1 H1 M1 → R μ1 H1 a b → Pst Γ E R' μ1 H1 (f a M1) Q → Q' b H1) : Pst Γ (W0 σ) R μ H r Q' := by
  cases r with
  | ok a M => exact fun μ' b H' e t m q => k a M μ' b H' rfl e t m q (h.shift e t)
  | ex x M => exact h.elim
  | no => exact h.elim
def tGTs (Γ : Gx) (W : WS) (m : LT) : TT := tGT Γ W m
theorem ptsm_nil : PTs X [] (tGT Γ W tY) := ⟨fun pins s σ H Q I h => pts_nil.run pins s σ H Q I (by
  obtain ⟨μ, L, M, hs, hm, hp⟩ := h
  exact hp.here hm rfl)⟩
theorem ptsm_one {c : Expr} {t : LT} (h : PT X c (tGT Γ W t)) : PTs X [c] (tGT Γ W t) := pts_one h
def Pat.slots : Pat → List Nat
  | .nm i => [i]
  | .tp is => is
theorem lc_step {p : Pat} {mit : LI} {tt : LT} {te : LE} {vs : List Nat} {σ : L2.St} {H : Hp} {Q : VK} (hv : ∀ i ∈ p.slots, i ∈ vs) (h : tG ⟨X.K, ce⟩ W (eLc mit p tt te vs) σ H Q) :
    tLc (tGI ⟨X.K, ce⟩ W mit) (p.rd X.K) (tGT ⟨X.K, ce⟩ W0 tt) (tG ⟨X.K, ce⟩ W0 te) vs σ H Q := by
  obtain ⟨μ, L, M, hs, hm, hp⟩ := h
  refine ⟨μ, L, M, hs, hm, hp.bind fun v M1 μ1 J H1 _ e1 t1 m1 r1 hp1 => ?_⟩
  intro D hD
  have tk : Tk X.K H1 (upd H1 D (.lst [])) := Tk.new hD
  refine ⟨fun i f H => ∃ μ M, μ[M1.length]? = some (D, true) ∧ Rs X.K μ H (wipeL L vs) (L2.wipe σ vs) ∧ RM X.K μ H M ∧ RI X.K μ H v J ∧ Pst ⟨X.K, ce⟩ (W σ) (RvR ⟨X.K, ce⟩) μ H (lcL v p tt te M1.length f i (wipeL L vs) M) Q,
    ⟨_, μ1 ++ [(D, true)], M1 ++ [.lst []], ?_, ((hs.mono e1 t1).mono (Ext.push _ _) tk).wipe vs, m1.push hD rvs_nil, r1.mono (Ext.push _ _) tk, hp1.shift (Ext.push _ _) tk⟩, ?_⟩
  · rw [← m1.len, List.getElem?_append_right (Nat.le_refl _), Nat.sub_self]; rfl
  rintro i f H2 ⟨μ2, M2, a2, s2, m2, r2, p2⟩
  cases f with
  | zero => exact p2.elim
  | succ f =>
    unfold lcL at p2
    cases q : v.at i M2 with
    | none =>
      simp only [q] at p2
      exact .inl ⟨ri_none m2 r2 q, p2.here m2 (rv_loc a2)⟩
    | some d =>
      simp only [q] at p2
      obtain ⟨g1, g2⟩ := ri_some m2 r2 q
      refine .inr ⟨g1, fun H => ∃ μ M, μ[M1.length]? = some (D, true) ∧ Rs X.K μ H (wipeL L vs) (L2.wipe σ vs) ∧ RM X.K μ H M ∧ RI X.K μ H v J ∧ Pst ⟨X.K, ce⟩ (W σ) (RvR ⟨X.K, ce⟩) μ H (lcL v p tt te M1.length f (i + 1) (wipeL L vs) M) Q,
        fun H' z => ⟨f, Nat.lt_succ_self _, z⟩, fun x H' y => ?_⟩
      obtain ⟨t0, m2, rx⟩ := g2 x H' y
      have s2 := s2.mono (Ext.refl _) t0
      have r2 := r2.mono (Ext.refl _) t0
      have p2 := p2.shift (Ext.refl _) t0
      cases q3 : p.put d (wipeL L vs) with
      | none => simp only [q3] at p2; exact p2.elim
      | some L3 =>
        simp only [q3] at p2
        refine pat_put q3 rx s2 fun σ' hs' hw => ?_
        have hw2 : L2.wipe σ' vs = L2.wipe σ vs := by
          rw [hw vs (by cases p <;> exact hv)]
          exact wipe_ext (L2.wipe_length _ _) fun j hj => L2.wipe_out hj
        refine ⟨hw2, μ2, L3, M2, hs', m2, p2.bindX fun k M4 μ4 k' H4 _ e4 t4 m4 r4 p4 => ?_⟩
        obtain rfl : k = k' := r4
        cases k with
        | false =>
          simp only [Bool.false_eq_true, if_false] at p4
          exact iteF ⟨μ4, M4, e4 _ _ a2, s2.mono e4 t4, m4, r2.mono e4 t4, p4⟩
        | true =>
          simp only [if_true] at p4
          refine iteT ⟨μ4, L3, M4, hs'.mono e4 t4, m4, p4.bindX fun z M5 μ5 w H5 _ e5 t5 m5 r5 p5 => ?_⟩
          have a5 := e5 _ _ (e4 _ _ a2)
          cases q6 : M5[M1.length]? with
          | none => simp only [q6] at p5; exact p5.elim
          | some o =>
            cases o with
            | rol ds => simp only [q6] at p5; exact p5.elim
            | dct ds => simp only [q6] at p5; exact p5.elim
            | dtn _ => simp only [q6] at p5; exact p5.elim
            | ins _ _ => simp only [q6] at p5; exact p5.elim
            | lst acc =>
              simp only [q6] at p5
              obtain ⟨us, g5, g6⟩ := m5.lst a5 q6
              by_cases z : acc.length < big
              · simp only [z, if_true] at p5
                have tk5 : Tk X.K H5 (upd H5 D (.lst (us ++ [w]))) := Tk.lst g5
                exact ⟨us, g5, by rw [g6.length]; exact big_lt z, μ5, _, a5, ((s2.mono e4 t4).mono e5 t5).mono (Ext.refl _) tk5, m5.set a5 q6 (g6.append (rvs_cons r5 rvs_nil)), ((r2.mono e4 t4).mono e5 t5).mono (Ext.refl _) tk5, p5.shift (Ext.refl _) tk5⟩
              · simp only [z, if_false] at p5; exact p5.elim
section
variable {elt tg iter : Expr} {ifs : List Expr} {scope : Scope} {own : List (Str × Nat)} {p : Pat} {mit : LI} {tt : LT} {te : LE}
theorem pm_lc (hc : X.calm = true) (hN : X.N.Nodup) (hi : PI X tg iter (tGI ⟨X.K, ce⟩ W mit)) (ok : BlkOk X.N X.env.scope scope own) (hv : ∀ i ∈ p.slots, i ∈ own.map (·.2))
    (hg : ∀ (s : Shared) (H : Hp) (C : Addr) (cl : List (Str × Addr)) (fp : List Addr), PG (X.blk s H scope (compEnvC scope cl C X.env) fp) tg (p.rd X.K)) (ht : ∀ (s : Shared) (H : Hp) (C : Addr) (cl : List (Str × Addr)) (fp : List Addr), PTs (X.blk s H scope (compEnvC scope cl C X.env) fp) ifs (tGT ⟨X.K, ce⟩ W0 tt))
    (he : ∀ (s : Shared) (H : Hp) (C : Addr) (cl : List (Str × Addr)) (fp : List Addr), PE (X.blk s H scope (compEnvC scope cl C X.env) fp) elt (tG ⟨X.K, ce⟩ W0 te)) (hs : ∀ x, foldedSetIterable iter X.env x = pure x := by intro _; rfl) :
    PE X (.ListComp elt [⟨tg, iter, ifs, 0⟩] scope pos) (tG ⟨X.K, ce⟩ W (eLc mit p tt te (own.map (·.2)))) :=
  pe_imp (pe_lc hc hN hi ok hg ht he hs) fun _ _ _ h => lc_step hv h
theorem psm_setLc {j : Nat} {y : Str} {py spos : Pos} (hc : X.calm = true) (hN : X.N.Nodup) (hy : X.N[j]? = some y) (hyl : X.env.scope.names.lookup y = some .local)
    (hsw : swapsWith (.ListComp elt [⟨tg, iter, ifs, 0⟩] scope pos) (some (.Name y py)) spos.line X.env = pure true) (hi : PI X tg iter (tGI ⟨X.K, ce⟩ W mit)) (ok : BlkOk X.N X.env.scope scope own) (hv : ∀ i ∈ p.slots, i ∈ own.map (·.2))
    (hg : ∀ (s : Shared) (H : Hp) (C : Addr) (cl : List (Str × Addr)) (fp : List Addr), PG (X.blk s H scope (compEnvC scope cl C X.env) fp) tg (p.rd X.K)) (ht : ∀ (s : Shared) (H : Hp) (C : Addr) (cl : List (Str × Addr)) (fp : List Addr), PTs (X.blk s H scope (compEnvC scope cl C X.env) fp) ifs (tGT ⟨X.K, ce⟩ W0 tt))
    (he : ∀ (s : Shared) (H : Hp) (C : Addr) (cl : List (Str × Addr)) (fp : List Addr), PE (X.blk s H scope (compEnvC scope cl C X.env) fp) elt (tG ⟨X.K, ce⟩ W0 te)) (hs : ∀ x, foldedSetIterable iter X.env x = pure x := by intro _; rfl) :
    PS X (.Assign [.Name y py] (.ListComp elt [⟨tg, iter, ifs, 0⟩] scope pos) spos) (tGS ⟨X.K, ce⟩ W (sSet j (eLc mit p tt te (own.map (·.2))))) :=
  ps_imp (ps_setLc hc hN hy hyl hsw hi ok hg ht he hs) fun D σ H h => by
    obtain ⟨μ, L, M, hs, hm, hp⟩ := h
    refine lc_step hv ⟨μ, L, M, hs, hm, hp.outE hs fun d M1 μ1 v H1 _ e1 t1 m1 r1 hp1 => ?_⟩
    exact hp1.next m1 ((hs.mono e1 t1).set r1 j)
end
end
end G

/-! S7: methods of lists; the law's end. -/
namespace G
open PySem L2 PyProof.Rows

/-! ### methods of lists -/
def mApp (x : D) (xs : List D) (M : Mem) : Res D := match x, xs with
  | .loc n, [y] => match M[n]? with
    | some (.lst ds) => if ds.length < big then .ok .non (M.set n (.lst (ds ++ [y]))) else .no
    | _ => .no
  | _, _ => .no
def mExt (x : D) (xs : List D) (M : Mem) : Res D := match x, xs with
  | .loc n, [.loc k] => match M[n]?, M[k]? with
    | some (.lst ds), some (.lst es) => if ds.length + es.length ≤ big then .ok .non (M.set n (.lst (ds ++ es))) else .no
    | _, _ => .no
  | _, _ => .no
def mPop (x : D) (xs : List D) (M : Mem) : Res D := match x, xs with
  | .loc n, [] => match M[n]? with
    | some (.lst ds) => match ds.getLast? with
      | some d => .ok d (M.set n (.lst ds.dropLast))
      | none => .no
    | _ => .no
  | _, _ => .no
/-- a method's call on a list -/
def eML (f : D → List D → Mem → Res D) (o : LE) (a : LA) : LE := fun L M => (o L M).bind fun x M1 => match x with
  | .loc n => (a L M1).bind fun xs M2 => f (.loc n) xs M2
  | _ => .no
def eML0 (f : D → List D → Mem → Res D) (o : LE) : LE := fun L M => (o L M).bind fun x M1 => match x with
  | .loc n => f (.loc n) [] M1
  | _ => .no
section
variable [Tab] {X : Cx} {Γ : Gx} {ce : Nat → Addr × List Str} {W : WS} {o e : Expr} {es : List Expr} {mo : LE} {ml : LA} {apos cpos : Pos} {name : Str} {id : String} {f : D → List D → Mem → Res D}
theorem loc_ty {K : PySem.W.Frag} {μ : Plc} {H : Hp} {M : Mem} {n : Nat} {v : V} (m : RM K μ H M) (r : Rv K μ H (.loc n) v) : tyV K "list" v H := by
  obtain ⟨a, rfl, h⟩ := r.loc
  have hn : n < M.length := by rw [← m.len]; exact (List.getElem?_eq_some_iff.mp h).1
  obtain ⟨vs, g1, _⟩ := m.sql h (List.getElem?_eq_getElem hn)
  exact .inl ⟨rfl, vs, g1⟩
theorem pm_ml (slot : Slot "list" name id) (hty : typeOf (.builtin id) = pure (.type "method_descriptor")) (hm : MtR X id (rGm ⟨X.K, ce⟩ f)) (ho : PE X o (tG ⟨X.K, ce⟩ W mo)) (ha : PA X (e :: es) (tGA ⟨X.K, ce⟩ W ml))
    (hbase : attributeBase o name X.env (eval o X.env) = eval o X.env := by rfl)
    (hfew : ((backTo cpos (starEach (e :: es) X.env)).all (fun x => !x.1) && (backToKw cpos (keywordEach [] X.env)).all (fun x => x.1.isSome)
      && decide ((e :: es).length + ([] : List Keyword).length + (if ([] : List Keyword).isEmpty then 0 else 1) < 30)) = true := by rfl)
    (hline : (apos.endLine == cpos.line) = true := by rfl) (hs : starEach (e :: es) X.env = (false, eval e X.env) :: starEach es X.env := by rfl) (hplain : (backTo cpos (starEach es X.env)).any (·.1) = false := by rfl) :
    PE X (.Call (.Attribute o name apos) (e :: es) [] cpos) (tG ⟨X.K, ce⟩ W (eML f mo ml)) :=
  pe_imp (pe_bm PySem.F.plainAttrs_list slot hty hm ho ha hbase hfew hline hs hplain) fun σ H Q h => by
    obtain ⟨μ, L, M, hs, hm, hp⟩ := h
    refine ⟨μ, L, M, hs, hm, hp.bind fun x M1 μ1 v H1 _ e1 t1 m1 r1 hp1 => ?_⟩
    cases x with
    | loc n =>
      refine ⟨loc_ty m1 r1, μ1, L, M1, hs.mono e1 t1, m1, hp1.bind fun xs M2 μ2 vs H2 _ e2 t2 m2 r2 hp2 => ?_⟩
      exact ⟨μ2, M2, .loc n, xs, m2, r1.mono e2 t2, r2, hp2.loose⟩
    | _ => exact hp1.elim
theorem pm_ml0 (slot : Slot "list" name id) (hty : typeOf (.builtin id) = pure (.type "method_descriptor")) (hm : MtR X id (rGm ⟨X.K, ce⟩ f)) (ho : PE X o (tG ⟨X.K, ce⟩ W mo))
    (hbase : attributeBase o name X.env (eval o X.env) = eval o X.env := by rfl) (hline : (apos.endLine == cpos.line) = true := by rfl) :
    PE X (.Call (.Attribute o name apos) [] [] cpos) (tG ⟨X.K, ce⟩ W (eML0 f mo)) :=
  pe_imp (pe_bm0 PySem.F.plainAttrs_list slot hty hm ho hbase hline) fun σ H Q h => by
    obtain ⟨μ, L, M, hs, hm, hp⟩ := h
    refine ⟨μ, L, M, hs, hm, hp.bind fun x M1 μ1 v H1 _ e1 t1 m1 r1 hp1 => ?_⟩
    cases x with
    | loc n => exact ⟨loc_ty m1 r1, μ1, M1, .loc n, [], m1, r1, rvs_nil, hp1.loose⟩
    | _ => exact hp1.elim
theorem mg_append : MtR X "list.append" (rGm ⟨X.K, ce⟩ mApp) := by
  intro pins s σ H x xs v us Q I rx rs h
  obtain ⟨μ, M, d, ds, hm, rd, rds, hp⟩ := h
  unfold mApp at hp
  split at hp
  · rename_i n y
    obtain ⟨a, rfl, h1⟩ := rd.loc
    obtain ⟨w, rfl, h2⟩ := rds.one
    cases q : M[n]? with
    | none => simp only [q] at hp; exact hp.elim
    | some o =>
      cases o with
      | rol es => simp only [q] at hp; exact hp.elim
      | dct es => simp only [q] at hp; exact hp.elim
      | dtn _ => simp only [q] at hp; exact hp.elim
      | ins _ _ => simp only [q] at hp; exact hp.elim
      | lst es =>
        simp only [q] at hp
        obtain ⟨vs, g1, g2⟩ := hm.lst h1 q
        by_cases z : es.length < big
        · simp only [z, if_true] at hp
          exact mt_append pins s σ H _ _ v us Q I rx rs ⟨a, vs, w, rfl, rfl, g1, by rw [g2.length]; exact big_lt z, hp.set hm h1 q (g2.append (rvs_cons h2 rvs_nil)) rv_non⟩
        · simp only [z, if_false] at hp; exact hp.elim
  · exact hp.elim
theorem mg_extend : MtR X "list.extend" (rGm ⟨X.K, ce⟩ mExt) := by
  intro pins s σ H x xs v us Q I rx rs h
  obtain ⟨μ, M, d, ds, hm, rd, rds, hp⟩ := h
  unfold mExt at hp
  split at hp
  · rename_i n k
    obtain ⟨a, rfl, h1⟩ := rd.loc
    obtain ⟨w, rfl, h2⟩ := rds.one
    obtain ⟨b, rfl, h3⟩ := h2.loc
    cases q : M[n]? with
    | none => simp only [q] at hp; exact hp.elim
    | some o =>
      cases q2 : M[k]? with
      | none => cases o <;> (simp only [q, q2] at hp; exact hp.elim)
      | some o2 =>
        cases o with
        | rol es => cases o2 <;> (simp only [q, q2] at hp; exact hp.elim)
        | dct es => cases o2 <;> (simp only [q, q2] at hp; exact hp.elim)
        | dtn _ => cases o2 <;> (simp only [q, q2] at hp; exact hp.elim)
        | ins _ _ => cases o2 <;> (simp only [q, q2] at hp; exact hp.elim)
        | lst es =>
          cases o2 with
          | rol es2 => simp only [q, q2] at hp; exact hp.elim
          | dct es2 => simp only [q, q2] at hp; exact hp.elim
          | dtn _ => simp only [q, q2] at hp; exact hp.elim
          | ins _ _ => simp only [q, q2] at hp; exact hp.elim
          | lst es2 =>
            simp only [q, q2] at hp
            obtain ⟨vs, g1, g2⟩ := hm.lst h1 q
            obtain ⟨ws, g3, g4⟩ := hm.lst h3 q2
            by_cases z : es.length + es2.length ≤ big
            · simp only [z, if_true] at hp
              exact mt_extend pins s σ H _ _ v us Q I rx rs ⟨a, b, vs, ws, rfl, rfl, g1, g3, by rw [g2.length, g4.length]; exact big_le z, hp.set hm h1 q (g2.append g4) rv_non⟩
            · simp only [z, if_false] at hp; exact hp.elim
  · exact hp.elim
theorem Rvs.dropLast {K : PySem.W.Frag} {μ : Plc} {H : Hp} {ds : List D} {vs : List V} (h : Rvs K μ H ds vs) : Rvs K μ H ds.dropLast vs.dropLast := by
  rw [List.dropLast_eq_take, List.dropLast_eq_take, h.length]
  exact h.take _
theorem mg_pop : MtR X "list.pop" (rGm ⟨X.K, ce⟩ mPop) := by
  intro pins s σ H x xs v us Q I rx rs h
  obtain ⟨μ, M, d, ds, hm, rd, rds, hp⟩ := h
  unfold mPop at hp
  split at hp
  · rename_i n
    obtain ⟨a, rfl, h1⟩ := rd.loc
    obtain rfl := rds.nil
    cases q : M[n]? with
    | none => simp only [q] at hp; exact hp.elim
    | some o =>
      cases o with
      | rol es => simp only [q] at hp; exact hp.elim
      | dct es => simp only [q] at hp; exact hp.elim
      | dtn _ => simp only [q] at hp; exact hp.elim
      | ins _ _ => simp only [q] at hp; exact hp.elim
      | lst es =>
        simp only [q] at hp
        obtain ⟨vs, g1, g2⟩ := hm.lst h1 q
        cases q2 : es.getLast? with
        | none => simp only [q2] at hp; exact hp.elim
        | some y =>
          simp only [q2] at hp
          have q3 : es[es.length - 1]? = some y := by rw [← List.getLast?_eq_getElem?]; exact q2
          obtain ⟨w, h3, h4⟩ := g2.get q3
          refine mt_pop pins s σ H _ _ v us Q I rx rs ⟨a, vs, w, rfl, rfl, g1, by rw [g2.length]; exact h3, ?_⟩
          exact hp.set hm h1 q g2.dropLast (h4.mono (Ext.refl _) (Tk.lst g1))
  · exact hp.elim
end

section
variable [Tab] {X : Cx} {W : WS}
/-- a global name whose value is written -/
theorem pm_ge {ce : Nat → Addr × List Str} {x : Str} {d : D} {pos : Pos} (hg : Gl X x) (h : ∃ v u, X.mg x = some u ∧ RelV v u ∧ ∀ μ H, Rv X.K μ H d v) (hd : (x == ("__debug__" : Str)) = false := by decide) : PE X (.Name x pos) (tG ⟨X.K, ce⟩ W (eC d)) := by
  obtain ⟨v, u, h1, h2, h3⟩ := h
  exact pm_g hg h1 h2 h3 hd
theorem fg_none [Tab] {P : Program} {w : World} {K : PySem.W.Frag} {mg : Str → Option Value} {base : Heap} {CX : CXT} {k : Nat} {f : Addr} {fd : FuncData} {ps : List Str} {fn : Fn} {ce : Nat → Addr × List Str} (h : ∀ ds M, fn ds M = .no) : FG P w K mg base CX k f fd ps (spG ⟨K, ce⟩ fn) := by
  have no : ∀ vs H Q E, ¬ spG ⟨K, ce⟩ fn vs H Q E := by
    rintro vs H Q E ⟨μ, M, ds, _, _, z⟩
    rw [h] at z; exact z
  exact ⟨fun vs H Q E z => (no _ _ _ _ z).elim, fun _ _ _ _ _ _ _ _ _ _ _ _ _ _ z => (no _ _ _ _ z).elim⟩
theorem bfull {K : PySem.W.Frag} {fd : FuncData} {ps : List Str} (h : ∃ ds, Vals ([] : List V) ds ∧ Binds K fd ps ds) : Binds K fd ps [] := by
  obtain ⟨ds, v, b⟩ := h
  cases v
  exact b
theorem rv_written {K : PySem.W.Frag} {μ : Plc} {H : Hp} {a : Addr} {o : Obj} {its : List Value} {n : Nat} {vs : List V} {ds : List D} (h : K.lookup a = some o) (hc : o.cls = .type "tuple") (hd : o.data = .seq its.toArray n) (hv : Vals vs its) (hz : vs.length ≤ 1000) (r : Rvs K μ H ds vs) : Rv K μ H (.tup ds) (.ref a) :=
  rv_tup (.inr ⟨o, its.toArray, n, h, hc, hd, by have := hv.length; rw [List.size_toArray]; exact Nat.le_trans (by omega) (show (1000 : Nat) ≤ sizeLine by decide), by simpa using hv⟩) r
theorem fd_fun {K : PySem.W.Frag} {x qual : Str} {st : Stmt} {f : Addr} {fd : FuncData} (F : Fun K x qual st f fd) : FunD K x qual (defArgs st) (defBody st) (defScope st) [] [] f fd := by
  obtain ⟨⟨oc, od, kV, dc, pm, an, cdv, ct, sl, e, l, c⟩, k⟩ := F
  exact ⟨⟨oc, od, .none, kV, dc, pm, an, cdv, ct, sl, e, l, c, .inl ⟨rfl, rfl⟩, .inl rfl⟩, k⟩
/-- a def with defaults: the tuple of them stands in the written part -/
theorem fd_dfl {K : PySem.W.Frag} {x qual : Str} {st : Stmt} {f Td : Addr} {oc kV dc pm cdv ct : Value} {od an : Option Addr} {sl : Array (Option Value)} {dvs : List V} {o : Obj} {its : List Value} {n : Nat}
    (l : K.lookup f = some ⟨oc, od, .func (PySem.W.fnOf x qual (defArgs st) (defBody st) (defScope st) (.ref Td) kV dc pm an cdv ct), sl⟩) (c : PySem.W.codeIn K cdv qual = true) (k : PySem.W.keepIn K (.ref f) = true)
    (lT : K.lookup Td = some o) (oT : o.data = .seq its.toArray n) (hv : Vals dvs its) (hd : dvs ≠ []) :
    FunD K x qual (defArgs st) (defBody st) (defScope st) dvs [] f (PySem.W.fnOf x qual (defArgs st) (defBody st) (defScope st) (.ref Td) kV dc pm an cdv ct) :=
  ⟨⟨oc, od, .ref Td, kV, dc, pm, an, cdv, ct, sl, rfl, l, c, .inr ⟨hd, Td, o, its, n, rfl, lT, oT, hv⟩, .inl rfl⟩, k⟩
theorem px0 : ∀ σ, PassesAt CX0 X σ (W σ) := fun _ _ _ _ _ _ _ h => h.elim
end

/-! ### the law's end: the call of law from outside -/
theorem law_go [tb : Tab] (noT : tb.T = []) {P : Program} {w : World} {K : PySem.W.Frag} {mg mb : Str → Option Value} {CX : CXT} {k : Nat} {fa sa : Addr} {fd : FuncData} {x : Str} {fn : Fn} {ce : Nat → Addr × List Str} {t : Shared} {vs : List Value} {ns : List Int}
    (KI : K.In t.heap) (gl : t.heap.Ns mainGlobals mg) (bl : t.heap.Ns builtinsNs mb) (bb : ∀ y : Str, y ≠ "__name__" → mb y = bootBuiltins y) (nl : t.heap.NoLimit) (nd : t.heap.NoDigits) (ge : t.gens = #[])
    (sc : t.heap.get? sa = some { cls := .type "list", data := .seq vs.toArray }) (it : IntsAre vs ns) (ln : ns.length ≤ sizeLine) (rm : Room k callerA)
    (F : ∀ base : Heap, K.In base → base.Ns mainGlobals mg → base.NoDigits → FG P w K mg base CX k fa fd [x] (spG ⟨K, ce⟩ fn)) (bi : ∀ (s : Shared) (u : Value), BindsTo s fd ⟨[u], []⟩ [(x, u)])
    (good : ∃ M', fn [.loc 0] [.rol (ns.map D.int)] = .ok (.bl true) M') (noE : ∀ H e s', CX [] H t (fun _ _ _ => False) e s' → False) :
    codeAny (model P w) callerA (.call (.ref fa) ⟨[.ref sa], []⟩) (fun r s' => r = .ok (.ret (.bool true)) ∧ OldK t.heap s'.heap ∧ s'.os = t.os ∧ AllBare s'.gens) t := by
  have rel := vals_ints it
  have len := it.length
  obtain ⟨ME, hE⟩ := good
  have main : ∀ H : Hp, Only H → Ro K [(sa, true)] H (.rol (ns.map D.int)) sa → HOk P w H t.heap → (∀ b, H b ≠ none → b = sa) → (H sa ≠ none → K.lookup sa = none) →
      codeAny (model P w) callerA (.call (.ref fa) ⟨[.ref sa], []⟩) (fun r s' => r = .ok (.ret (.bool true)) ∧ OldK t.heap s'.heap ∧ s'.os = t.os ∧ AllBare s'.gens) t := by
    intro H only ro ok one two
    have dictN : ∀ {b : Addr} {o : Obj} {es : Array DictEntry} {ep : Nat}, t.heap.get? b = some o → o.data = .dict es ep → H b = none := by
      intro b o es ep e d
      cases q : H b with
      | none => rfl
      | some u =>
        have z := one b (by rw [q]; intro h; cases h)
        rw [z, sc] at e; cases e; cases d
    have low : ∀ {b : Addr} {m : Str → Option Value}, t.heap.Ns b m → (hidT t.heap H).Ns b m := by
      rintro b m ⟨o, es, ep, e, d, r⟩
      exact ⟨o, es, ep, hidT_get e (dictN e d), d, r⟩
    have KB : K.In (hidT t.heap H) := by
      intro b o e
      refine hidT_get (KI b o e) ?_
      cases q : H b with
      | none => rfl
      | some u =>
        have z := one b (by rw [q]; intro h; cases h)
        rw [z] at q e
        rw [two (by rw [q]; intro h; cases h)] at e; cases e
    have md : Mod K mg (hidT t.heap H) := ⟨KB, low gl, ⟨mb, low bl, bb⟩, let ⟨mc, a1, a2⟩ := nl; ⟨mc, low a1, a2⟩⟩
    have dg : (hidT t.heap H).NoDigits := let ⟨mc, a1, a2⟩ := nd; ⟨mc, low a1, a2⟩
    have en : Env0 P w K mg (hidT t.heap H) callerA [] t H := by
      refine ⟨rfl, md, fun b o e => of_hidT e, Nat.le_of_eq (hidT_size _ _), trivial, fun b hb => ?_, ok, .of_eq ge⟩
      cases hb
    have rmem : RM K [(sa, true)] H [.rol (ns.map D.int)] := by
      refine ⟨fun p hp => (by rw [noT] at hp; cases hp), rfl, fun i j a k l o u h1 h2 h3 h4 mo mu => ?_, fun i a k o h1 h2 => ?_⟩
      · cases i with
        | zero => cases h3; cases mo
        | succ i => simp at h3
      · cases i with
        | zero => cases h1; cases h2; exact ⟨rfl, ro⟩
        | succ i => simp at h1
    have pr : spG ⟨K, ce⟩ fn [.ref sa] H (fun v _ => v = .bl true) (fun _ _ _ => False) := by
      refine ⟨[(sa, true)], [.rol (ns.map D.int)], [.loc 0], rmem, rvs_cons (rv_loc rfl) rvs_nil, ?_⟩
      rw [hE]
      intro μ' v H' e1 t1 m1 r1
      exact r1.bl
    refine codeAny_mono ((F _ KB (low gl) dg).go callerA [] t H ⟨[.ref sa], []⟩ [.ref sa] [.ref sa] _ _ rm rfl en (bi t (.ref sa)) (.cons rfl .nil) pr) fun r s' h => ?_
    cases r with
    | error e => exact (noE H e s' h).elim
    | ok fl => cases fl with
      | next => exact h.elim
      | brk => exact h.elim
      | cont => exact h.elim
      | ret u =>
        obtain ⟨v, H', os, bare, un, ok', r', q⟩ := h
        obtain rfl : v = .bl true := q
        obtain rfl : u = Value.bool true := r'
        refine ⟨rfl, OldK.of_keep fun b o e => ?_, os, bare⟩
        cases q : H b with
        | none => exact un.keep b o e q (by intro z; cases z) (by simp)
        | some u =>
          rcases only b with z | ⟨ob, xs, z⟩
          · rw [q] at z; cases z
          · obtain ⟨e1, _⟩ := ok b _ z
            obtain ⟨e2, _⟩ := ok' b _ (un.frzs b ob _ z)
            rw [e] at e1; cases e1
            exact e2
  have rints : ∀ H : Hp, Rvs K [(sa, true)] H (ns.map D.int) (ns.map V.int) := fun H => rvs_ints ns
  cases hk : K.lookup sa with
  | some o =>
    have e := KI sa o hk
    rw [sc] at e; cases e
    refine main (fun _ => none) (fun _ => .inl rfl) ⟨_, .inr ⟨_, vs.toArray, _, hk, rfl, rfl, rfl, by rw [List.size_toArray, len]; exact ln, by simpa using rel⟩, rints _⟩ (fun b u z => ?_) (fun b z => absurd rfl z) fun z => absurd rfl z
    have : (none : Option HO) = some u := z
    cases this
  | none =>
    let H : Hp := fun b => if b = sa then some (.frz { cls := .type "list", data := .seq vs.toArray } (.lst (ns.map V.int))) else none
    have at1 : H sa = some (.frz { cls := .type "list", data := .seq vs.toArray } (.lst (ns.map V.int))) := if_pos rfl
    have off : ∀ b, b ≠ sa → H b = none := fun b hb => if_neg hb
    refine main H (fun b => ?_) ⟨_, .inl ⟨_, at1⟩, rints _⟩ (fun b u z => ?_) (fun b z => ?_) fun _ => hk
    · by_cases hb : b = sa
      · rw [hb]; exact .inr ⟨_, _, at1⟩
      · exact .inl (off b hb)
    · by_cases hb : b = sa
      · rw [hb] at z ⊢
        rw [at1] at z; cases z
        exact ⟨sc, by rw [List.length_map]; exact ln, vs, _, rel, sc⟩
      · rw [off b hb] at z; cases z
    · exact Classical.byContradiction fun hb => z (off b hb)

/-- the goal behind k_head -/
theorem walk_go [tb : Tab] (noT : tb.T = []) {l : PySem.W.OpenLaw} {n k : Nat} {q : Program} {loose : List Str} {XP : (Str → Option Value) → Heap → Prop} {YP : World → Heap → Prop} {d : DefRec} {K : Params → PySem.W.Frag} {fn : Fn} {x : Str}
    (hn : l.most = some n) (hn2 : n ≤ sizeLine) (hdf : d.params.defaults = []) (rm : Room k callerA) (hY : ∀ (w : World) (h : Heap), YP w h → (K w.params).In h)
    (F : ∀ (w : World) (mg : Str → Option Value) (fa : Addr) (h : Heap), (K w.params).In h → h.Ns mainGlobals mg → mg d.name = some (.ref fa) →
      ∃ (fd : FuncData) (ce : Nat → Addr × List Str), (∀ (s : Shared) (u : Value), BindsTo s fd ⟨[u], []⟩ [(x, u)]) ∧
        ∀ base : Heap, (K w.params).In base → base.Ns mainGlobals mg → base.NoDigits → FG l.prog w (K w.params) mg base CX0 k fa fd [x] (spG ⟨K w.params, ce⟩ fn))
    (good : ∀ ns : List Int, ns.length ≤ n → ∃ M', fn [.loc 0] [.rol (ns.map D.int)] = .ok (.bl true) M') :
    PySem.W.WalkO q loose XP YP l.row.toRowW d [] (fun f vs => PySem.call f vs) := by
  refine Att.attach_call hn hdf fun w s₀ s₁ mg mb fa o pm cd doc a vs ns G Y ho hd hcd hmg hobj hints hlen hg => ?_
  have KX := hY w _ Y
  obtain ⟨fd, ce, hb, hF⟩ := F w mg fa _ KX G.T.g hmg
  exact law_go noT KX G.T.g G.T.b G.T.builtins G.T.nolimit G.T.nodigits hg hobj hints (Nat.le_trans hlen hn2) rm hF hb (good ns hlen) fun H e s' h => h
end G

/-! S8: match over texts; in, not in. -/
namespace G
open PySem L2
def mtC (x : D) : List (D × LS) → LS
  | [] => fun L M => .ok (.nx, L) M
  | (c, b) :: r => fun L M => outE L ((dEq x c M).bind asB) fun k M1 => if k = true then b L M1 else mtC x r L M1
def sMt (e : LE) (cs : List (D × LS)) : LS := fun L M => outE L (e L M) fun x M1 => mtC x cs L M1
def dIn (neg : Bool) (x y : D) (M : Mem) : Res D := match itemsD y M with
  | some ds => if flatD x = true ∧ ds.all flatD = true then .ok (.bl (if neg then !(ds.any fun z => eqF z x) else ds.any fun z => eqF z x)) M else .no
  | none => .no
section
variable [Tab] {X : Cx} {Γ : Gx} {ce : Nat → Addr × List Str} {W : WS} {e : Expr} {me : LE} {pos p1 p2 : Pos} {body : List Stmt} {mb : LS} {rest cases : List MatchCase} {cs : List (D × LS)}
structure PMC (X : Cx) (Γ : Gx) (W : WS) (cases : List MatchCase) (cs : List (D × LS)) : Prop where
  run : ∀ (pins : List (Addr × Obj)) (s : Shared) (σ : L2.St) (H : Hp) (D : Ends) (x : G.D) (v : V) (u : Value) (μ : Plc) (L : Env) (M : Mem) (first : Bool), Inv X pins σ H s → RelV v u → Rv Γ.K μ H x v → Rs Γ.K μ H L σ → RM Γ.K μ H M → PstS Γ W μ H (mtC x cs L M) D →
    wpAny (model X.prog X.w) X.A (matchCases cases X.env u first) (SP X pins D) X.xe s
theorem pmc_nil : PMC X Γ W [] [] := ⟨fun pins s σ H D x v u μ L M first I r rx hs hm hp => wpAny_matchCases_nil ⟨σ, H, I, PstS.next hp hm hs⟩⟩
theorem pmc_str {c : Str} {j} (ho : OpR X (compareOp .Eq) (rG Γ dEq)) (hb : PSs X body (tGS Γ W mb)) (hr : PMC X Γ W rest cs) : PMC X Γ W (⟨.MatchValue (.Constant (.str c) j p2) p1, none, body⟩ :: rest) ((.str c, mb) :: cs) := ⟨fun pins s σ H D x v u μ L M first I r rx hs hm hp => by
  refine wpAny_matchCases_cons (wpAny_matchPattern_Value ?_)
  refine thn ((pm_str (X := X) (Γ := Γ) (W := W) (x := c) (j := j) (pos := p2)).run pins s σ H (fun b H' => ∃ μ', Ext μ μ' ∧ Tk Γ.K H H' ∧ RM Γ.K μ' H' M ∧ Rv Γ.K μ' H' (.str c) b) I ⟨μ, L, M, hs, hm, fun μ' b H' e t m q => ⟨μ', e, t, m, q⟩⟩) ?_
  rintro w s1 ⟨b, H1, I1, rb, μ1, e1, t1, m1, q1⟩
  have hp1 := PstS.shift e1 t1 hp
  have hs1 := hs.mono e1 t1
  have k1 : Pst Γ (W σ) RbR μ1 H1 ((dEq x (.str c) M).bind asB) (fun (k : Bool) H2 => ∃ μ2 M2, Rv Γ.K μ2 H2 x v ∧ Rs Γ.K μ2 H2 L σ ∧ RM Γ.K μ2 H2 M2 ∧ PstS Γ W μ2 H2 (if k = true then mb L M2 else mtC x cs L M2) D) :=
    PstS.outE hp1 hs1 fun k M2 μ2 k' H2 _ e2 t2 m2 r2 hp2 => by
      obtain rfl : k = k' := r2
      exact ⟨μ2, M2, (rx.mono e1 t1).mono e2 t2, hs1.mono e2 t2, m2, hp2⟩
  refine thn (ho pins s1 σ H1 v b u w (fun z H2 => ∃ k, z = .bl k ∧ ∃ μ2 M2, Rv Γ.K μ2 H2 x v ∧ Rs Γ.K μ2 H2 L σ ∧ RM Γ.K μ2 H2 M2 ∧ PstS Γ W μ2 H2 (if k = true then mb L M2 else mtC x cs L M2) D) I1 r rb ⟨μ1, M, x, .str c, m1, rx.mono e1 t1, q1, (k1.bind (R := RvR Γ) fun z M3 μ3 y H3 _ e3 t3 m3 r3 hp3 => ?_).loose⟩) ?_
  · cases z with
    | bl k => exact ⟨k, r3.bl, hp3.here m3 rfl⟩
    | _ => exact hp3.elim
  · rintro z s2 ⟨y, H2, I2, ry, k, rfl, μ2, M2, rx2, hs2, m2, hp2⟩
    cases ry
    refine wpAny_truthy_bool ?_
    cases k with
    | true => exact wpAny_assignInOrder_none (hb.run pins s2 σ H2 D I2 ⟨μ2, L, M2, hs2, m2, hp2⟩)
    | false => exact hr.run pins s2 σ H2 D x v u μ2 L M2 false I2 r rx2 hs2 m2 hp2⟩
theorem psm_match (he : PE X e (tG Γ W me)) (hc : PMC X Γ W cases cs) : PS X (.Match e cases pos) (tGS Γ W (sMt me cs)) := ⟨fun pins s σ H D I h => by
  obtain ⟨μ, L, M, hs, hm, hp⟩ := h
  refine wpAny_Match (thn (he.run pins s σ H (fun v H1 => ∃ μ1 d M1, Rv Γ.K μ1 H1 d v ∧ Rs Γ.K μ1 H1 L σ ∧ RM Γ.K μ1 H1 M1 ∧ PstS Γ W μ1 H1 (mtC d cs L M1) D) I ⟨μ, L, M, hs, hm, PstS.outE hp hs fun d M1 μ1 v H1 _ e1 t1 m1 r1 hp1 => ⟨μ1, d, M1, r1, hs.mono e1 t1, m1, hp1⟩⟩) ?_)
  rintro u s1 ⟨v, H1, I1, r, μ1, d, M1, rd, hs1, m1, hp1⟩
  exact hc.run pins s1 σ H1 D d v u μ1 L M1 true I1 r rd hs1 m1 hp1⟩
/-! in -/
theorem flat_rv {K : PySem.W.Frag} {μ : Plc} {H : Hp} {d : D} {v : V} (r : Rv K μ H d v) (f : flatD d = true) : flatV v = true := by
  cases d with
  | non => obtain rfl := r.non; rfl
  | bl _ => obtain rfl := r.bl; rfl
  | int _ => obtain rfl := r.int; rfl
  | str _ => obtain rfl := r.str; rfl
  | tup _ => exact absurd f Bool.false_ne_true
  | loc _ => exact absurd f Bool.false_ne_true
  | obj _ => exact absurd f Bool.false_ne_true
theorem eqF_rv {K : PySem.W.Frag} {μ : Plc} {H : Hp} {d e : D} {v w : V} (r : Rv K μ H d v) (q : Rv K μ H e w) (f : flatD d = true) (g : flatD e = true) : eqV v w = eqF d e := by
  cases d with
  | non => obtain rfl := r.non; cases e with
    | non => obtain rfl := q.non; rfl
    | bl _ => obtain rfl := q.bl; rfl
    | int _ => obtain rfl := q.int; rfl
    | str _ => obtain rfl := q.str; rfl
    | tup _ => exact absurd g Bool.false_ne_true
    | loc _ => exact absurd g Bool.false_ne_true
    | obj _ => exact absurd g Bool.false_ne_true
  | bl _ => obtain rfl := r.bl; cases e with
    | non => obtain rfl := q.non; rfl
    | bl _ => obtain rfl := q.bl; rfl
    | int _ => obtain rfl := q.int; rfl
    | str _ => obtain rfl := q.str; rfl
    | tup _ => exact absurd g Bool.false_ne_true
    | loc _ => exact absurd g Bool.false_ne_true
    | obj _ => exact absurd g Bool.false_ne_true
  | int _ => obtain rfl := r.int; cases e with
    | non => obtain rfl := q.non; rfl
    | bl _ => obtain rfl := q.bl; rfl
    | int _ => obtain rfl := q.int; rfl
    | str _ => obtain rfl := q.str; rfl
    | tup _ => exact absurd g Bool.false_ne_true
    | loc _ => exact absurd g Bool.false_ne_true
    | obj _ => exact absurd g Bool.false_ne_true
  | str _ => obtain rfl := r.str; cases e with
    | non => obtain rfl := q.non; rfl
    | bl _ => obtain rfl := q.bl; rfl
    | int _ => obtain rfl := q.int; rfl
    | str _ => obtain rfl := q.str; rfl
    | tup _ => exact absurd g Bool.false_ne_true
    | loc _ => exact absurd g Bool.false_ne_true
    | obj _ => exact absurd g Bool.false_ne_true
  | tup _ => exact absurd f Bool.false_ne_true
  | loc _ => exact absurd f Bool.false_ne_true
  | obj _ => exact absurd f Bool.false_ne_true
theorem flats_rv {K : PySem.W.Frag} {μ : Plc} {H : Hp} {e : D} {w : V} (q : Rv K μ H e w) (g : flatD e = true) : ∀ {ds : List D} {vs : List V}, Rvs K μ H ds vs → ds.all flatD = true → vs.all flatV = true ∧ (vs.any fun y => eqV y w) = ds.any fun z => eqF z e
  | [], _, r, _ => by obtain rfl := r.nil; exact ⟨rfl, rfl⟩
  | d :: ds, _, r, f => by
    obtain ⟨v, vs, rfl, h1, h2⟩ := r.uncons
    rw [List.all_cons, Bool.and_eq_true] at f
    obtain ⟨a, b⟩ := flats_rv q g h2 f.2
    exact ⟨by rw [List.all_cons, flat_rv h1 f.1, a]; rfl, by rw [List.any_cons, List.any_cons, eqF_rv h1 q f.1 g, b]⟩
theorem og_inG {op : CmpOp} {neg : Bool} (ho : OpR X (compareOp op) (rIn X.K neg)) : OpR X (compareOp op) (rG ⟨X.K, ce⟩ (dIn neg)) := by
  intro pins s σ H x y v u Q I rx ry h
  obtain ⟨μ, M, a, b, hm, ra, rb, hp⟩ := h
  unfold dIn at hp
  cases q : itemsD b M with
  | none => rw [q] at hp; exact hp.elim
  | some ds =>
    rw [q] at hp
    simp only at hp
    by_cases z : flatD a = true ∧ ds.all flatD = true
    · rw [if_pos z] at hp
      obtain ⟨p, vs, rfl, hq, rs⟩ := items_sq hm rb q
      obtain ⟨f1, f2⟩ := flats_rv ra z.1 rs z.2
      refine ho pins s σ H _ _ v u Q I rx ry ⟨p, vs, rfl, hq, flat_rv ra z.1, f1, ?_⟩
      refine hp.here hm ?_
      show Rv _ _ _ _ _
      unfold inV
      rw [f2]
      exact rv_bl _
    · rw [if_neg z] at hp; exact hp.elim
theorem og_in : OpR X (compareOp .In) (rG ⟨X.K, ce⟩ (dIn false)) := og_inG op_in_seq
theorem og_notIn : OpR X (compareOp .NotIn) (rG ⟨X.K, ce⟩ (dIn true)) := og_inG op_notIn_seq
end
end G

/-! S9: dicts: the empty one, sorted; enumerate; comprehensions with two fors. -/
namespace G
open PySem L2
/-- {} -/
def eDn : LE := fun _ M => .ok (.obj M.length) (M ++ [.dct []])
def keysI : List (Key × D) → Option (List Int)
  | [] => some []
  | (.inl i, _) :: r => (keysI r).map (i :: ·)
  | (.inr _, _) :: _ => none
/-- sorted: of a dict with int keys, or of a list of ints -/
def bSorted (xs : List D) (M : Mem) : Res D := match xs with
  | [.obj n] => match M[n]? with
    | some (.dct kvs) => match keysI kvs with
      | some ks => if ks.length < 64 then .ok (.loc M.length) (M ++ [.lst ((ks.mergeSort (· ≤ ·)).map D.int)]) else .no
      | none => .no
    | _ => .no
  | _ => .no
section
variable [Tab] {X : Cx} {Γ : Gx} {ce : Nat → Addr × List Str} {W : WS} {e : Expr} {me : LE} {pos p1 p2 : Pos}
theorem pm_dnew : PE X (.Dict [] [] pos) (tG Γ W eDn) := pe_imp pe_dnewK fun σ H Q h => by
  obtain ⟨μ, L, M, hs, hm, hp⟩ := h
  intro p n0
  exact hp (μ ++ [(p, false)]) _ _ (Ext.push _ _) (Tk.new n0) (hm.pushO (o := .dct []) n0 ⟨[], upd_same, rfl, rvs_nil⟩) (rv_obj (by rw [← hm.len, List.getElem?_append_right (Nat.le_refl _), Nat.sub_self]; rfl))
theorem keysI_w {kvs : List (Key × D)} : ∀ {ks : List Int}, keysI kvs = some ks → kvs.map (·.1) = ks.map Sum.inl := by
  induction kvs with
  | nil => intro ks h; cases h; rfl
  | cons kv r ih =>
    intro ks h
    obtain ⟨k, d⟩ := kv
    cases k with
    | inr _ => cases h
    | inl i =>
      unfold keysI at h
      cases q : keysI r with
      | none => rw [q] at h; cases h
      | some js =>
        rw [q] at h; cases h
        simp only [List.map_cons, ih q]
theorem sorted_eq {ks ys : List Int} (hp : ys.Perm ks) (hs : ys.Pairwise (· ≤ ·)) : ks.mergeSort (· ≤ ·) = ys := by
  have h1 : (ks.mergeSort (· ≤ ·)).Perm ys := (List.mergeSort_perm ks _).trans hp.symm
  have h2 : (ks.mergeSort (· ≤ ·)).Pairwise (fun a b : Int => (decide (a ≤ b)) = true) := List.pairwise_mergeSort (fun a b c x y => by simp at x y ⊢; omega) (fun a b => by simp; omega) ks
  have h3 : (ks.mergeSort (· ≤ ·)).Pairwise (fun a b : Int => a ≤ b) := h2.imp fun h => by simpa using h
  exact h1.eq_of_pairwise (le := fun a b : Int => a ≤ b) (fun a b _ _ x y => Int.le_antisymm x y) h3 hs
theorem cg_sorted (hc : X.calm = true) : CallR X (.builtin "sorted") (rGs ⟨X.K, ce⟩ bSorted) := by
  intro pins s σ H xs us Q I r h
  obtain ⟨μ, M, ds, hm, rd, hp⟩ := h
  unfold bSorted at hp
  split at hp
  · rename_i n
    obtain ⟨v, rfl, rv⟩ := rd.one
    obtain ⟨p, rfl, h1⟩ := rv.obj
    cases q : M[n]? with
    | none => simp only [q] at hp; exact hp.elim
    | some o =>
      cases o with
      | lst _ => simp only [q] at hp; exact hp.elim
      | rol _ => simp only [q] at hp; exact hp.elim
      | dtn _ => simp only [q] at hp; exact hp.elim
      | ins _ _ => simp only [q] at hp; exact hp.elim
      | dct kvs =>
        cases q2 : keysI kvs with
        | none => simp only [q, q2] at hp; exact hp.elim
        | some ks =>
          simp only [q, q2] at hp
          by_cases z : ks.length < 64
          · simp only [z, if_true] at hp
            obtain ⟨ws, h2, h3, _⟩ := hm.dct h1 q
            refine call_sortedDI hc pins s σ H _ us Q I r ⟨p, ws, ks, rfl, .inl h2, by rw [h3, keysI_w q2], z, fun ys np hpm hpw n0 => ?_⟩
            rw [sorted_eq hpm hpw] at hp
            exact hp.newL hm (rvs_ints ys) n0
          · simp only [z, if_false] at hp; exact hp.elim
  · exact hp.elim
/-- for .. in enumerate(xs) -/
theorem pim_enum {elts : List Expr} {kk : Nat} {tpos : Pos} (hg : Gl X "enumerate") (hm : X.mg "enumerate" = none) (he : PE X e (tG ⟨X.K, ce⟩ W me)) (hs : starEach [e] X.env = [(false, eval e X.env)] := by rfl) (hs1 : starEach [e] X.env = (false, eval e X.env) :: starEach [] X.env := by rfl) :
    PI X (.Tuple elts kk tpos) (.Call (.Name "enumerate" p1) [e] [] pos) (tGI ⟨X.K, ce⟩ W (iEn me)) :=
  pi_imp (pi_enum hg hm (pa_cons he pa_nil hs1) hs) fun σ H R h => by
    obtain ⟨μ, L, M, hs, hm, hp⟩ := h
    refine ⟨μ, L, M, hs, hm, hp.bind fun d M1 μ1 v H1 _ e1 t1 m1 r1 hp1 => ?_⟩
    cases d with
    | loc n =>
      obtain ⟨a, rfl, h1⟩ := r1.loc
      cases q : M1[n]? with
      | none => simp only [q] at hp1; exact hp1.elim
      | some o =>
        simp only [q] at hp1
        obtain ⟨vs, g1, _⟩ := m1.sql h1 q
        exact ⟨a, vs, rfl, g1, hp1.here m1 ⟨a, rfl, h1⟩⟩
    | _ => exact hp1.elim
end
/-! ### two fors -/
theorem bind_assoc {α β γ : Type} (r : Res α) (f : α → Mem → Res β) (g : β → Mem → Res γ) : (r.bind f).bind g = r.bind fun a M => (f a M).bind g := by
  cases r <;> rfl
def lcI (v : IV) (p : Pat) (tt : LT) (te : LE) (n : Nat) (L : Env) (vs : List Nat) : Nat → Nat → Mem → Res Unit
  | 0, _, _ => .no
  | f + 1, i, M => match v.at i M with
    | none => .ok () M
    | some d => match p.put d (wipeL L vs) with
      | none => .no
      | some L1 => (noX (tt L1 M)).bind fun k M1 => if k = true then (noX (te L1 M1)).bind fun y M2 => match M2[n]? with
          | some (.lst acc) => if acc.length < big then lcI v p tt te n L vs f (i + 1) (M2.set n (.lst (acc ++ [y]))) else .no
          | _ => .no
        else lcI v p tt te n L vs f (i + 1) M1
def lcO (v : IV) (p : Pat) (tt : LT) (it1 : LI) (p1 : Pat) (tt1 : LT) (te : LE) (vs1 : List Nat) (n : Nat) : Nat → Nat → Env → Mem → Res D
  | 0, _, _, _ => .no
  | f + 1, i, L, M => match v.at i M with
    | none => .ok (.loc n) M
    | some d => match p.put d L with
      | none => .no
      | some L1 => (noX (tt L1 M)).bind fun k M1 => if k = true then (noX (it1 L1 M1)).bind fun v1 M2 => (lcI v1 p1 tt1 te n L1 vs1 (v1.size M2 + 1) 0 M2).bind fun _ M3 => lcO v p tt it1 p1 tt1 te vs1 n f (i + 1) L M3
        else lcO v p tt it1 p1 tt1 te vs1 n f (i + 1) L M1
def eLc2 (it : LI) (p : Pat) (tt : LT) (it1 : LI) (p1 : Pat) (tt1 : LT) (te : LE) (vs vs1 : List Nat) : LE := fun L M => (it L M).bind fun v M1 => lcO v p tt it1 p1 tt1 te vs1 M1.length (v.size M1 + 1) 0 (wipeL L vs) (M1 ++ [.lst []])
section
variable [Tab] {X : Cx} {ce : Nat → Addr × List Str} {W : WS}
theorem lc2_step {p p1 : Pat} {mit mit1 : LI} {tt tt1 : LT} {te : LE} {vs vs1 : List Nat} {σ : L2.St} {H : Hp} {Q : VK} (hv : ∀ i ∈ p.slots, i ∈ vs) (hv1 : ∀ i ∈ p1.slots, i ∈ vs1) (h : tG ⟨X.K, ce⟩ W (eLc2 mit p tt mit1 p1 tt1 te vs vs1) σ H Q) :
    tLc2 (tGI ⟨X.K, ce⟩ W mit) (p.rd X.K) (tGT ⟨X.K, ce⟩ W0 tt) (tGI ⟨X.K, ce⟩ W0 mit1) (p1.rd X.K) (tGT ⟨X.K, ce⟩ W0 tt1) (tG ⟨X.K, ce⟩ W0 te) vs vs1 σ H Q := by
  obtain ⟨μ, L, M, hs, hm, hp⟩ := h
  refine ⟨μ, L, M, hs, hm, hp.bind fun v M1 μ1 J H1 _ e1 t1 m1 r1 hp1 => ?_⟩
  intro D hD
  have tk : Tk X.K H1 (upd H1 D (.lst [])) := Tk.new hD
  refine ⟨fun i f H => ∃ μ M, μ[M1.length]? = some (D, true) ∧ Rs X.K μ H (wipeL L vs) (L2.wipe σ vs) ∧ RM X.K μ H M ∧ RI X.K μ H v J ∧ Pst ⟨X.K, ce⟩ (W σ) (RvR ⟨X.K, ce⟩) μ H (lcO v p tt mit1 p1 tt1 te vs1 M1.length f i (wipeL L vs) M) Q,
    ⟨_, μ1 ++ [(D, true)], M1 ++ [.lst []], ?_, ((hs.mono e1 t1).mono (Ext.push _ _) tk).wipe vs, m1.push hD rvs_nil, r1.mono (Ext.push _ _) tk, hp1.shift (Ext.push _ _) tk⟩, ?_⟩
  · rw [← m1.len, List.getElem?_append_right (Nat.le_refl _), Nat.sub_self]; rfl
  rintro i f H2 ⟨μ2, M2, a2, s2, m2, r2, p2⟩
  cases f with
  | zero => exact p2.elim
  | succ f =>
    unfold lcO at p2
    cases q : v.at i M2 with
    | none =>
      simp only [q] at p2
      exact .inl ⟨ri_none m2 r2 q, p2.here m2 (rv_loc a2)⟩
    | some d =>
      simp only [q] at p2
      obtain ⟨g1, g2⟩ := ri_some m2 r2 q
      refine .inr ⟨g1, fun H => ∃ μ M, μ[M1.length]? = some (D, true) ∧ Rs X.K μ H (wipeL L vs) (L2.wipe σ vs) ∧ RM X.K μ H M ∧ RI X.K μ H v J ∧ Pst ⟨X.K, ce⟩ (W σ) (RvR ⟨X.K, ce⟩) μ H (lcO v p tt mit1 p1 tt1 te vs1 M1.length f (i + 1) (wipeL L vs) M) Q,
        fun H' z => ⟨f, Nat.lt_succ_self _, z⟩, fun x H' y => ?_⟩
      obtain ⟨t0, m2, rx⟩ := g2 x H' y
      have s2 := s2.mono (Ext.refl _) t0
      have r2 := r2.mono (Ext.refl _) t0
      have p2 := p2.shift (Ext.refl _) t0
      cases q3 : p.put d (wipeL L vs) with
      | none => simp only [q3] at p2; exact p2.elim
      | some L3 =>
        simp only [q3] at p2
        refine pat_put q3 rx s2 fun σ' hs' hw => ?_
        have hw2 : L2.wipe σ' vs = L2.wipe σ vs := by
          rw [hw vs (by cases p <;> exact hv)]
          exact wipe_ext (L2.wipe_length _ _) fun j hj => L2.wipe_out hj
        refine ⟨hw2, μ2, L3, M2, hs', m2, p2.bindX fun k M4 μ4 k' H4 _ e4 t4 m4 r4 p4 => ?_⟩
        obtain rfl : k = k' := r4
        cases k with
        | false =>
          simp only [Bool.false_eq_true, if_false] at p4
          exact iteF ⟨μ4, M4, e4 _ _ a2, s2.mono e4 t4, m4, r2.mono e4 t4, p4⟩
        | true =>
          simp only [if_true] at p4
          refine iteT ⟨μ4, L3, M4, hs'.mono e4 t4, m4, p4.bindX fun v1 M5 μ5 J1 H5 _ e5 t5 m5 r5 p5 => ?_⟩
          have a5 := e5 _ _ (e4 _ _ a2)
          have s5 := (s2.mono e4 t4).mono e5 t5
          have hs5 := (hs'.mono e4 t4).mono e5 t5
          have r25 := (r2.mono e4 t4).mono e5 t5
          refine ⟨fun j g H => ∃ μ M, μ[M1.length]? = some (D, true) ∧ Rs X.K μ H (wipeL L vs) (L2.wipe σ vs) ∧ Rs X.K μ H L3 σ' ∧ RM X.K μ H M ∧ RI X.K μ H v J ∧ RI X.K μ H v1 J1 ∧ Pst ⟨X.K, ce⟩ (W σ) (RvR ⟨X.K, ce⟩) μ H ((lcI v1 p1 tt1 te M1.length L3 vs1 g j M).bind fun _ M3 => lcO v p tt mit1 p1 tt1 te vs1 M1.length f (i + 1) (wipeL L vs) M3) Q,
            ⟨_, μ5, M5, a5, s5, hs5, m5, r25, r5, p5⟩, ?_⟩
          rintro j g H6 ⟨μ6, M6, a6, s6, z6, m6, r6, u6, p6⟩
          cases g with
          | zero => exact p6.elim
          | succ g =>
            unfold lcI at p6
            cases w : v1.at j M6 with
            | none =>
              simp only [w, Res.bind] at p6
              exact .inl ⟨ri_none m6 u6 w, μ6, M6, a6, s6, m6, r6, p6⟩
            | some d6 =>
              simp only [w] at p6
              obtain ⟨b1, b2⟩ := ri_some m6 u6 w
              refine .inr ⟨b1, fun H => ∃ μ M, μ[M1.length]? = some (D, true) ∧ Rs X.K μ H (wipeL L vs) (L2.wipe σ vs) ∧ Rs X.K μ H L3 σ' ∧ RM X.K μ H M ∧ RI X.K μ H v J ∧ RI X.K μ H v1 J1 ∧ Pst ⟨X.K, ce⟩ (W σ) (RvR ⟨X.K, ce⟩) μ H ((lcI v1 p1 tt1 te M1.length L3 vs1 g (j + 1) M).bind fun _ M3 => lcO v p tt mit1 p1 tt1 te vs1 M1.length f (i + 1) (wipeL L vs) M3) Q,
                fun H' z => ⟨g, Nat.lt_succ_self _, z⟩, fun x H' y => ?_⟩
              obtain ⟨t0, m6, rx⟩ := b2 x H' y
              have s6 := s6.mono (Ext.refl _) t0
              have z6 := z6.mono (Ext.refl _) t0
              have r6 := r6.mono (Ext.refl _) t0
              have u6 := u6.mono (Ext.refl _) t0
              have p6 := p6.shift (Ext.refl _) t0
              cases q7 : p1.put d6 (wipeL L3 vs1) with
              | none => simp only [q7, Res.bind] at p6; exact p6.elim
              | some L7 =>
                simp only [q7] at p6
                refine pat_put q7 rx (z6.wipe vs1) fun σ7 hs7 hw7 => ?_
                have hw8 : L2.wipe σ7 vs1 = L2.wipe σ' vs1 := by
                  rw [hw7 vs1 (by cases p1 <;> exact hv1)]
                  exact wipe_ext (L2.wipe_length _ _) fun j hj => L2.wipe_out hj
                rw [bind_assoc] at p6
                refine ⟨hw8, μ6, L7, M6, hs7, m6, p6.bindX fun k M8 μ8 k' H8 _ e8 t8 m8 r8 p8 => ?_⟩
                obtain rfl : k = k' := r8
                cases k with
                | false =>
                  simp only [Bool.false_eq_true, if_false] at p8
                  exact iteF ⟨μ8, M8, e8 _ _ a6, s6.mono e8 t8, z6.mono e8 t8, m8, r6.mono e8 t8, u6.mono e8 t8, p8⟩
                | true =>
                  simp only [if_true] at p8
                  rw [bind_assoc] at p8
                  refine iteT ⟨μ8, L7, M8, hs7.mono e8 t8, m8, p8.bindX fun z M9 μ9 y9 H9 _ e9 t9 m9 r9 p9 => ?_⟩
                  have a9 := e9 _ _ (e8 _ _ a6)
                  cases q9 : M9[M1.length]? with
                  | none => simp only [q9, Res.bind] at p9; exact p9.elim
                  | some o =>
                    cases o with
                    | rol ds => simp only [q9, Res.bind] at p9; exact p9.elim
                    | dct ds => simp only [q9, Res.bind] at p9; exact p9.elim
                    | dtn _ => simp only [q9, Res.bind] at p9; exact p9.elim
                    | ins _ _ => simp only [q9, Res.bind] at p9; exact p9.elim
                    | lst acc =>
                      simp only [q9] at p9
                      obtain ⟨us, g5, g6⟩ := m9.lst a9 q9
                      by_cases zb : acc.length < big
                      · simp only [zb, if_true] at p9
                        have tk9 : Tk X.K H9 (upd H9 D (.lst (us ++ [y9]))) := Tk.lst g5
                        exact ⟨us, g5, by rw [g6.length]; exact big_lt zb, μ9, _, a9, ((s6.mono e8 t8).mono e9 t9).mono (Ext.refl _) tk9, ((z6.mono e8 t8).mono e9 t9).mono (Ext.refl _) tk9, m9.set a9 q9 (g6.append (rvs_cons r9 rvs_nil)), ((r6.mono e8 t8).mono e9 t9).mono (Ext.refl _) tk9, ((u6.mono e8 t8).mono e9 t9).mono (Ext.refl _) tk9, p9.shift (Ext.refl _) tk9⟩
                      · simp only [zb, if_false, Res.bind] at p9; exact p9.elim
theorem pm_lc2 {elt tg iter tg1 iter1 : Expr} {ifs ifs1 : List Expr} {scope : Scope} {own : List (Str × Nat)} {vs1 : List Nat} {pos : Pos} {p p1 : Pat} {mit mit1 : LI} {tt tt1 : LT} {te : LE} (hc : X.calm = true) (hN : X.N.Nodup) (hi : PI X tg iter (tGI ⟨X.K, ce⟩ W mit)) (ok : BlkOk X.N X.env.scope scope own) (hv0 : ∀ i ∈ vs1, i ∈ own.map (·.2)) (hv : ∀ i ∈ p.slots, i ∈ own.map (·.2)) (hv1 : ∀ i ∈ p1.slots, i ∈ vs1)
    (hg : ∀ (s : Shared) (H : Hp) (C : Addr) (cl : List (Str × Addr)) (fp : List Addr), PG (X.blk s H scope (compEnvC scope cl C X.env) fp) tg (p.rd X.K)) (ht : ∀ (s : Shared) (H : Hp) (C : Addr) (cl : List (Str × Addr)) (fp : List Addr), PTs (X.blk s H scope (compEnvC scope cl C X.env) fp) ifs (tGT ⟨X.K, ce⟩ W0 tt))
    (hi1 : ∀ (s : Shared) (H : Hp) (C : Addr) (cl : List (Str × Addr)) (fp : List Addr), PI (X.blk s H scope (compEnvC scope cl C X.env) fp) tg1 iter1 (tGI ⟨X.K, ce⟩ W0 mit1))
    (hg1 : ∀ (s : Shared) (H : Hp) (C : Addr) (cl : List (Str × Addr)) (fp : List Addr), PG (X.blk s H scope (compEnvC scope cl C X.env) fp) tg1 (p1.rd X.K)) (ht1 : ∀ (s : Shared) (H : Hp) (C : Addr) (cl : List (Str × Addr)) (fp : List Addr), PTs (X.blk s H scope (compEnvC scope cl C X.env) fp) ifs1 (tGT ⟨X.K, ce⟩ W0 tt1))
    (he : ∀ (s : Shared) (H : Hp) (C : Addr) (cl : List (Str × Addr)) (fp : List Addr), PE (X.blk s H scope (compEnvC scope cl C X.env) fp) elt (tG ⟨X.K, ce⟩ W0 te)) (hs : ∀ x, foldedSetIterable iter X.env x = pure x := by intro _; rfl) (hs1 : ∀ env x, foldedSetIterable iter1 env x = pure x := by intro _ _; rfl) :
    PE X (.ListComp elt [⟨tg, iter, ifs, 0⟩, ⟨tg1, iter1, ifs1, 0⟩] scope pos) (tG ⟨X.K, ce⟩ W (eLc2 mit p tt mit1 p1 tt1 te (own.map (·.2)) vs1)) :=
  pe_imp (pe_lc2 hc hN hi ok hv0 hg ht hi1 hg1 ht1 he hs hs1) fun _ _ _ h => lc2_step hv hv1 h
end
end G

/-! S10: d.get(k, x). -/
namespace G
open PySem L2 PyProof.Rows
def eDg2 (o e f : LE) : LE := fun L M => (o L M).bind fun x M1 => match x with
  | .obj n => match M1[n]? with
    | some (.dct _) => (e L M1).bind fun y M2 => (f L M2).bind fun z M3 => match M3[n]? with
      | some (.dct kvs) => match keyD y with
        | some k => .ok ((getD kvs k).getD z) M3
        | none => .no
      | _ => .no
    | _ => .no
  | _ => .no
section
variable [Tab] {X : Cx} {ce : Nat → Addr × List Str} {W : WS} {o e f : Expr} {mo me mf : LE} {apos cpos : Pos} {K : PySem.W.Frag} {μ : Plc} {H : Hp}
theorem Rk.get {k : Key} {z : D} {vz : V} (rz : Rv K μ H z vz) : ∀ {kvs : List (Key × D)} {ws : List (Key × V)}, Rk K μ H kvs ws → Rv K μ H ((getD kvs k).getD z) ((valV ws k).getD vz)
  | [], ws, r => by
    obtain rfl : ws = [] := List.eq_nil_of_length_eq_zero (by have := r.len; simpa using this)
    exact rz
  | kv :: kvs, ws, r => by
    obtain ⟨v, t, rfl, h1, h2⟩ := r.uncons
    have ih := Rk.get (k := k) rz h2
    by_cases q : kv.1 = k
    · simp only [getD, valV, List.find?_cons, q, decide_true, Option.map_some, Option.getD_some]
      exact h1
    · simp only [getD, valV, List.find?_cons, q, decide_false]
      exact ih
theorem lt64 {a b : Nat} (h : a + 64 < b) : a + 1 < b := by omega
theorem pm_dget2 (hu : X.A.units + 1 < cLine) (ho : PE X o (tG ⟨X.K, ce⟩ W mo)) (he : PE X e (tG ⟨X.K, ce⟩ W me)) (hf : PE X f (tG ⟨X.K, ce⟩ W mf)) (m : M2 X o "get" apos e f cpos) :
    PE X (.Call (.Attribute o "get" apos) [e, f] [] cpos) (tG ⟨X.K, ce⟩ W (eDg2 mo me mf)) := pe_imp (pe_dget2 hu ho he hf m) fun σ H Q h => by
  obtain ⟨μ, L, M, hs, hm, hp⟩ := h
  refine ⟨μ, L, M, hs, hm, hp.bind fun x M1 μ1 v H1 _ e1 t1 m1 r1 hp1 => ?_⟩
  cases x with
  | obj n =>
    obtain ⟨a, rfl, h1⟩ := r1.obj
    cases q : M1[n]? with
    | none => simp only [q] at hp1; exact hp1.elim
    | some oo =>
      cases oo with
      | rol ds => simp only [q] at hp1; exact hp1.elim
      | lst ds => simp only [q] at hp1; exact hp1.elim
      | dtn _ => simp only [q] at hp1; exact hp1.elim
      | ins _ _ => simp only [q] at hp1; exact hp1.elim
      | dct kvs =>
        simp only [q] at hp1
        obtain ⟨ws, g1, g2, g3⟩ := m1.dct h1 q
        refine ⟨a, rfl, .inl ⟨ws, .inl g1⟩, μ1, L, M1, hs.mono e1 t1, m1, hp1.bind fun y M2 μ2 vy H2 _ e2 t2 m2 r2 hp2 => ?_⟩
        refine ⟨μ2, L, M2, hs.mono (e1.trans e2) (t1.trans t2), m2, hp2.bind fun z M3 μ3 vz H3 _ e3 t3 m3 r3 hp3 => ?_⟩
        cases q3 : M3[n]? with
        | none => simp only [q3] at hp3; exact hp3.elim
        | some oo =>
          cases oo with
          | rol ds => simp only [q3] at hp3; exact hp3.elim
          | lst ds => simp only [q3] at hp3; exact hp3.elim
          | dtn _ => simp only [q3] at hp3; exact hp3.elim
          | ins _ _ => simp only [q3] at hp3; exact hp3.elim
          | dct kvs3 =>
            simp only [q3] at hp3
            cases qk : keyD y with
            | none => simp only [qk] at hp3; exact hp3.elim
            | some k =>
              simp only [qk] at hp3
              obtain ⟨ws3, g4, g5, g6⟩ := m3.dct (e2.trans e3 _ _ h1) q3
              obtain rfl := keyD_v r2 qk
              exact ⟨valV ws3 k, DGet.k g4, hp3.here m3 (Rk.get r3 ⟨g5, g6⟩)⟩
  | _ => exact hp1.elim
end
end G

/-! S11: xs.pop(0). -/
namespace G
open PySem L2 PyProof.Rows
def mPop0 (x : D) (xs : List D) (M : Mem) : Res D := match x, xs with
  | .loc n, [.int 0] => match M[n]? with
    | some (.lst (d :: ds)) => .ok d (M.set n (.lst ds))
    | _ => .no
  | _, _ => .no
section
variable [Tab] {X : Cx} {ce : Nat → Addr × List Str}
theorem mg_pop0 : MtR X "list.pop" (rGm ⟨X.K, ce⟩ mPop0) := by
  intro pins s σ H x xs v us Q I rx rs h
  obtain ⟨μ, M, d, ds, hm, rd, rds, hp⟩ := h
  unfold mPop0 at hp
  split at hp
  · rename_i n
    obtain ⟨a, rfl, h1⟩ := rd.loc
    obtain ⟨w, rfl, h2⟩ := rds.one
    obtain rfl := h2.int
    split at hp
    · rename_i e es q
      obtain ⟨vs, g1, g2⟩ := hm.lst h1 q
      obtain ⟨y, t, rfl, h3, h4⟩ := g2.uncons
      refine mt_popAt pins s σ H _ _ v us Q I rx rs ⟨a, y :: t, 0, 0, y, rfl, rfl, g1, by decide, by decide, ?_, rfl, ?_⟩
      · simp [seqIndex?]
      · exact hp.set hm h1 q h4 (h3.mono (Ext.refl _) (Tk.lst g1))
    · exact hp.elim
  · exact hp.elim
end
end G

/-! P0: the mirror is read step by step: only what comes next is opened. -/
namespace G
open PySem L2
section
variable {α β : Type} {r r' : Res α} {f : α → Mem → Res β} {L : Env} {M : Mem} {i : Nat} {d x : D} {a b c : LE} {al : LA} {xs : List D}
theorem bind_ok {a : α} : (Res.ok a M).bind f = f a M := rfl
theorem bind_ex {e : Exn} : (Res.ex e M : Res α).bind f = .ex e M := rfl
theorem outE_ok {g : α → Mem → Res (Fl × Env)} {a : α} : outE L (.ok a M) g = g a M := rfl
theorem outE_ex {g : α → Mem → Res (Fl × Env)} {e : Exn} : outE L (.ex e M : Res α) g = .ok (.xc e, L) M := rfl
theorem retF_nx : retF (.ok (.nx, L) M) = .ok .non M := rfl
theorem retF_rt : retF (.ok (.rt d, L) M) = .ok d M := rfl
theorem retF_xc {e : Exn} : retF (.ok (.xc e, L) M) = .ex e M := rfl
def optR : Option (Option D) → Mem → Res D
  | some (some d), M => .ok d M
  | _, _ => .no
theorem x_optR : optR (some (some d)) M = .ok d M := rfl
theorem x_eV : eV i L M = optR L[i]? M := by
  unfold eV optR
  rcases L[i]? with _ | _ | _ <;> rfl
theorem x_eC : eC d L M = .ok d M := rfl
def kB (f : D → D → Mem → Res D) (b : LE) (L : Env) (x : D) (M : Mem) : Res D := (b L M).bind (f x)
theorem x_kB {f : D → D → Mem → Res D} : kB f b L x M = (b L M).bind (f x) := rfl
theorem x_eB {f : D → D → Mem → Res D} : eB f a b L M = (a L M).bind (kB f b L) := rfl
theorem x_eU {f : D → Mem → Res D} : eU f a L M = (a L M).bind f := rfl
theorem x_eF {f : List D → Mem → Res D} : eF f al L M = (al L M).bind f := rfl
def kM (f : D → List D → Mem → Res D) (al : LA) (L : Env) (x : D) (M : Mem) : Res D := (al L M).bind (f x)
theorem x_kM {f : D → List D → Mem → Res D} : kM f al L x M = (al L M).bind (f x) := rfl
theorem x_eM {f : D → List D → Mem → Res D} : eM f a al L M = (a L M).bind (kM f al L) := rfl
def kIf {α : Type} (a b : Env → Mem → Res α) (L : Env) (k : Bool) (M : Mem) : Res α := if k = true then a L M else b L M
theorem x_ift {a b : Env → Mem → Res α} : kIf a b L true M = a L M := rfl
theorem x_iff {a b : Env → Mem → Res α} : kIf a b L false M = b L M := rfl
theorem x_eIf {c : LT} : eIf c a b L M = (c L M).bind (kIf a b L) := rfl
def kTup (xs : List D) (M : Mem) : Res D := if xs.length ≤ 1000 then .ok (.tup xs) M else .no
def kLst (xs : List D) (M : Mem) : Res D := if xs.length ≤ 1000 then .ok (.loc M.length) (M ++ [.lst xs]) else .no
theorem x_kTup : kTup xs M = if xs.length ≤ 1000 then .ok (.tup xs) M else .no := rfl
theorem x_kLst : kLst xs M = if xs.length ≤ 1000 then .ok (.loc M.length) (M ++ [.lst xs]) else .no := rfl
theorem x_eTup : eTup al L M = (al L M).bind kTup := rfl
theorem x_eLst : eLst al L M = (al L M).bind kLst := rfl
theorem x_aN : aN L M = .ok [] M := rfl
def kC (al : LA) (L : Env) (x : D) (M : Mem) : Res (List D) := (al L M).bind fun xs M2 => .ok (x :: xs) M2
def kCc (x : D) (xs : List D) (M : Mem) : Res (List D) := .ok (x :: xs) M
theorem x_kCc : kCc x xs M = .ok (x :: xs) M := rfl
theorem x_kC : kC al L x M = (al L M).bind (kCc x) := rfl
theorem x_aC : aC a al L M = (a L M).bind (kC al L) := rfl
theorem x_tV : tV a L M = (a L M).bind truD := rfl
def kCm (f : D → D → Mem → Res D) (b : LE) (L : Env) (x : D) (M : Mem) : Res Bool := (b L M).bind fun y M2 => (f x y M2).bind asB
def kCn (f : D → D → Mem → Res D) (x y : D) (M : Mem) : Res Bool := (f x y M).bind asB
theorem x_kCn {f : D → D → Mem → Res D} {y : D} : kCn f x y M = (f x y M).bind asB := rfl
theorem x_kCm {f : D → D → Mem → Res D} : kCm f b L x M = (b L M).bind (kCn f x) := rfl
theorem x_tCm {f : D → D → Mem → Res D} : tCm f a b L M = (a L M).bind (kCm f b L) := rfl
def okB (k : Bool) : Env → Mem → Res Bool := fun _ M => .ok k M
theorem x_okB {k : Bool} : okB k L M = .ok k M := rfl
theorem x_tA {c e : LT} : tA c e L M = (c L M).bind (kIf e (okB false) L) := rfl
theorem x_tO {c e : LT} : tO c e L M = (c L M).bind (kIf (okB true) e L) := rfl
def kN (k : Bool) (M : Mem) : Res Bool := .ok (!k) M
theorem x_kN {k : Bool} : kN k M = .ok (!k) M := rfl
theorem x_tN {c : LT} : tN c L M = (c L M).bind kN := rfl
theorem x_tCh {f g : D → D → Mem → Res D} : tCh f g a b c L M = (eCh f g a b c L M).bind asB := rfl
def kCh (f g : D → D → Mem → Res D) (b c : LE) (L : Env) (x : D) (M : Mem) : Res D := (b L M).bind fun y M2 => (f x y M2).bind fun z M3 => (asB z M3).bind fun k M4 =>
  if k = true then (c L M4).bind fun w M5 => g y w M5 else .ok (.bl false) M4
def kCi (f g : D → D → Mem → Res D) (c : LE) (L : Env) (x y : D) (M : Mem) : Res D := ((f x y M).bind asB).bind (kIf (fun L M => (c L M).bind (g y)) (eC (.bl false)) L)
def kCj (g : D → D → Mem → Res D) (c : LE) (y : D) : LE := fun L M => (c L M).bind (g y)
theorem x_kCj {g : D → D → Mem → Res D} {y : D} : kCj g c y L M = (c L M).bind (g y) := rfl
theorem x_kCi {f g : D → D → Mem → Res D} {y : D} : kCi f g c L x y M = ((f x y M).bind asB).bind (kIf (kCj g c y) (eC (.bl false)) L) := rfl
theorem x_kCh {f g : D → D → Mem → Res D} : kCh f g b c L x M = (b L M).bind (kCi f g c L x) := by
  unfold kCh
  congr 1
  funext y M1
  unfold kCi
  rcases f x y M1 with ⟨z, _⟩ | _ | _
  · simp only [bind_ok]
    rcases asB z _ with ⟨_ | _, _⟩ | _ | _ <;> rfl
  · rfl
  · rfl
theorem x_eCh {f g : D → D → Mem → Res D} : eCh f g a b c L M = (a L M).bind (kCh f g b c L) := rfl
def kAn (b : LE) (L : Env) (x : D) (M : Mem) : Res D := (truD x M).bind fun k M2 => if k = true then b L M2 else .ok x M2
def kOr (b : LE) (L : Env) (x : D) (M : Mem) : Res D := (truD x M).bind fun k M2 => if k = true then .ok x M2 else b L M2
def kNo (x : D) (M : Mem) : Res D := (truD x M).bind fun k M2 => .ok (.bl (!k)) M2
def kNb (k : Bool) (M : Mem) : Res D := .ok (.bl (!k)) M
theorem x_kNb {k : Bool} : kNb k M = .ok (.bl (!k)) M := rfl
theorem x_kAn : kAn b L x M = (truD x M).bind (kIf b (eC x) L) := rfl
theorem x_kOr : kOr b L x M = (truD x M).bind (kIf (eC x) b L) := rfl
theorem x_kNo : kNo x M = (truD x M).bind kNb := rfl
theorem x_eAnd : eAnd a b L M = (a L M).bind (kAn b L) := rfl
theorem x_eOr : eOr a b L M = (a L M).bind (kOr b L) := rfl
theorem x_eNot : eNot a L M = (a L M).bind kNo := rfl
def kCl (fn : Fn) (dds : List D) (xs : List D) (M : Mem) : Res D := fn (xs ++ dds) M
theorem x_kCl {fn : Fn} {dds : List D} : kCl fn dds xs M = fn (xs ++ dds) M := rfl
theorem x_eCall {fn : Fn} {dds : List D} : eCall fn dds al L M = (al L M).bind (kCl fn dds) := rfl
def kS1 (lo hi : LO) (L : Env) (x : D) (M : Mem) : Res D := (lo L M).bind fun l M2 => (hi L M2).bind fun h M3 => dSl x l h M3
def kS2 (hi : LO) (L : Env) (x : D) (l : Option Int) (M : Mem) : Res D := (hi L M).bind fun h M3 => dSl x l h M3
theorem x_kS2 {hi : LO} {l : Option Int} : kS2 hi L x l M = (hi L M).bind (dSl x l) := rfl
theorem x_kS1 {lo hi : LO} : kS1 lo hi L x M = (lo L M).bind (kS2 hi L x) := rfl
theorem x_eSl {lo hi : LO} : eSl a lo hi L M = (a L M).bind (kS1 lo hi L) := rfl
theorem x_oN : oN L M = .ok none M := rfl
def asO (x : D) (M : Mem) : Res (Option Int) := match x with
  | .int i => .ok (some i) M
  | _ => .no
theorem x_asO {i : Int} : asO (.int i) M = .ok (some i) M := rfl
theorem x_oS : oS a L M = (a L M).bind asO := by
  unfold oS
  congr 1
def mOf (f : D → List D → Mem → Res D) (x : D) (xs : List D) (M : Mem) : Res D := match x with
  | .loc n => f (.loc n) xs M
  | _ => .no
def mLoc (x : D) (M : Mem) : Res D := match x with
  | .loc n => .ok (.loc n) M
  | _ => .no
theorem x_mLoc {n : Nat} : mLoc (.loc n) M = .ok (.loc n) M := rfl
def kML (f : D → List D → Mem → Res D) (al : LA) (L : Env) (x : D) (M : Mem) : Res D := (mLoc x M).bind (kM f al L)
theorem x_kML {f : D → List D → Mem → Res D} : kML f al L x M = (mLoc x M).bind (kM f al L) := rfl
theorem x_eML {f : D → List D → Mem → Res D} : eML f a al L M = (a L M).bind (kML f al L) := by
  unfold eML
  congr 1
  funext d M1
  cases d <;> rfl
def kM0 (f : D → List D → Mem → Res D) (x : D) (M : Mem) : Res D := f x [] M
theorem x_kM0 {f : D → List D → Mem → Res D} : kM0 f x M = f x [] M := rfl
def kMl0 (f : D → List D → Mem → Res D) (x : D) (M : Mem) : Res D := (mLoc x M).bind (kM0 f)
theorem x_kMl0 {f : D → List D → Mem → Res D} : kMl0 f x M = (mLoc x M).bind (kM0 f) := rfl
theorem x_eML0 {f : D → List D → Mem → Res D} : eML0 f a L M = (a L M).bind (kMl0 f) := by
  unfold eML0
  congr 1
  funext d M1
  cases d <;> rfl
theorem x_truB {k : Bool} : truD (.bl k) M = .ok k M := rfl
theorem x_truI {k : Int} : truD (.int k) M = .ok (k != 0) M := rfl
theorem x_asB {k : Bool} : asB (.bl k) M = .ok k M := rfl
/-! statements -/
def contS (b : LS) (r : Fl × Env) (M : Mem) : Res (Fl × Env) := match r.1 with
  | .nx => b r.2 M
  | _ => .ok r M
theorem x_cnx {b : LS} : contS b (.nx, L) M = b L M := rfl
theorem x_crt {b : LS} : contS b (.rt d, L) M = .ok (.rt d, L) M := rfl
theorem x_cbk {b : LS} : contS b (.bk, L) M = .ok (.bk, L) M := rfl
theorem x_cct {b : LS} : contS b (.ct, L) M = .ok (.ct, L) M := rfl
theorem x_cxc {b : LS} {e : Exn} : contS b (.xc e, L) M = .ok (.xc e, L) M := rfl
theorem x_sSeq {a b : LS} : sSeq a b L M = (a L M).bind (contS b) := by
  unfold sSeq
  congr 1
theorem x_sNil : sNil L M = .ok (.nx, L) M := rfl
theorem x_sBrk : sBrk L M = .ok (.bk, L) M := rfl
theorem x_sCnt : sCnt L M = .ok (.ct, L) M := rfl
def kEx {α : Type} (L : Env) (_ : α) (M : Mem) : Res (Fl × Env) := .ok (.nx, L) M
theorem x_kEx {u : α} : kEx L u M = .ok (.nx, L) M := rfl
def kSet (i : Nat) (L : Env) (d : D) (M : Mem) : Res (Fl × Env) := .ok (.nx, L.set i (some d)) M
theorem x_kSet : kSet i L d M = .ok (.nx, L.set i (some d)) M := rfl
theorem x_sEx : sEx a L M = outE L (a L M) (kEx L) := rfl
theorem x_sSet : sSet i a L M = outE L (a L M) (kSet i L) := rfl
def putsL : List Nat → List D → Env → Option Env
  | [], [], L => some L
  | i :: is, d :: ds, L => putsL is ds (L.set i (some d))
  | _, _, _ => none
theorem x_puts {is : List Nat} {ds : List D} : (if ds.length = is.length then some ((is.zip ds).foldl (fun L p => L.set p.1 (some p.2)) L) else none) = putsL is ds L := by
  induction is generalizing ds L with
  | nil => cases ds with
    | nil => simp [putsL]
    | cons d ds => simp [putsL]
  | cons i is ih => cases ds with
    | nil => simp [putsL]
    | cons d ds =>
      simp only [putsL, ← ih, List.length_cons, Nat.add_right_cancel_iff, List.zip_cons_cons, List.foldl_cons]
def okO : Option Env → Mem → Res (Fl × Env)
  | some L, M => .ok (.nx, L) M
  | none, _ => .no
theorem x_okO : okO (some L) M = .ok (.nx, L) M := rfl
theorem x_putsN : putsL [] [] L = some L := rfl
theorem x_putsC {is : List Nat} {ds : List D} : putsL (i :: is) (d :: ds) L = putsL is ds (L.set i (some d)) := rfl
def kPar (is : List Nat) (L : Env) (ds : List D) (M : Mem) : Res (Fl × Env) := okO (putsL is ds L) M
theorem x_kPar {is : List Nat} {ds : List D} : kPar is L ds M = okO (putsL is ds L) M := rfl
theorem x_sPar {is : List Nat} : sPar is al L M = outE L (al L M) (kPar is L) := by
  show _ = outE L (al L M) fun ds M1 => okO (putsL is ds L) M1
  have : ∀ ds M1, okO (putsL is ds L) M1 = if ds.length = is.length then .ok (.nx, (is.zip ds).foldl (fun L p => L.set p.1 (some p.2)) L) M1 else .no := fun ds M1 => by
    rw [← x_puts]
    split <;> rfl
  simp only [sPar, this]
def kRet (L : Env) (d : D) (M : Mem) : Res (Fl × Env) := .ok (.rt d, L) M
theorem x_kRet : kRet L d M = .ok (.rt d, L) M := rfl
theorem x_sRet : sRet a L M = outE L (a L M) (kRet L) := rfl
theorem x_sRetN : sRetN L M = .ok (.rt .non, L) M := rfl
theorem x_sIf {c : LT} {a b : LS} : sIf c a b L M = outE L (c L M) (kIf a b L) := rfl
def kSb1 (a b : LE) (L : Env) (x : D) (M : Mem) : Res Unit := (a L M).bind fun y M2 => (b L M2).bind fun z M3 => dSet y z x M3
def kSb2 (b : LE) (L : Env) (x y : D) (M : Mem) : Res Unit := (b L M).bind fun z M3 => dSet y z x M3
def kSb3 (x y z : D) (M : Mem) : Res Unit := dSet y z x M
theorem x_kSb3 {y z : D} : kSb3 x y z M = dSet y z x M := rfl
theorem x_kSb2 {y : D} : kSb2 b L x y M = (b L M).bind (kSb3 x y) := rfl
theorem x_kSb1 : kSb1 a b L x M = (a L M).bind (kSb2 b L x) := rfl
theorem x_sSub {v : LE} : sSub a b v L M = outE L ((v L M).bind (kSb1 a b L)) (kEx L) := rfl
def kAsg (p : Pat) (L : Env) (d : D) (M : Mem) : Res (Fl × Env) := okO (p.put d L) M
theorem x_kAsg {p : Pat} : kAsg p L d M = okO (p.put d L) M := rfl
theorem x_sAsg {p : Pat} : sAsg p a L M = outE L (a L M) (kAsg p L) := by
  unfold sAsg kAsg
  congr 1
  funext d M1
  cases p.put d L <;> rfl
theorem x_pnm : (Pat.nm i).put d L = some (L.set i (some d)) := rfl
theorem x_ptp {is : List Nat} {ds : List D} : (Pat.tp is).put (.tup ds) L = putsL is ds L := by
  rw [← x_puts]; rfl
def kFor (p : Pat) (b : LS) (L : Env) (v : IV) (M : Mem) : Res (Fl × Env) := forL v p b (v.size M + 1) 0 L M
theorem x_kFor {p : Pat} {b : LS} {v : IV} : kFor p b L v M = forL v p b (v.size M + 1) 0 L M := rfl
theorem x_sFor {it : LI} {p : Pat} {b : LS} : sFor it p b L M = outE L (it L M) (kFor p b L) := rfl
def itD (d : D) (M : Mem) : Res IV := match d with
  | .tup ds => .ok (.tup ds) M
  | .loc n => match M[n]? with
    | some _ => .ok (.loc n) M
    | none => .no
  | _ => .no
theorem x_itT {ds : List D} : itD (.tup ds) M = .ok (.tup ds) M := rfl
theorem x_itL {n : Nat} {o : O} (h : M[n]? = some o) : itD (.loc n) M = .ok (.loc n) M := by simp only [itD, h]
def r1D (d : D) (M : Mem) : Res IV := match d with
  | .int j => if -1000000000 ≤ j ∧ j ≤ 1000000000 then .ok (.rng 0 j.toNat) M else .no
  | _ => .no
theorem x_r1 {n : Nat} (h : n ≤ 1000000000) : r1D (.int n) M = .ok (.rng 0 n) M := by
  simp only [r1D]
  rw [if_pos ⟨by omega, by omega⟩, Int.toNat_natCast]
def r2D (d e : D) (M : Mem) : Res IV := match d, e with
  | .int i, .int j => if -1000000000 ≤ i ∧ i ≤ 1000000000 ∧ -1000000000 ≤ j ∧ j ≤ 1000000000 then .ok (.rng i (j - i).toNat) M else .no
  | _, _ => .no
theorem x_iR1 : iR1 a L M = (a L M).bind r1D := by
  unfold iR1
  congr 1
def kR2 (b : LE) (L : Env) (x : D) (M : Mem) : Res IV := (b L M).bind (r2D x)
theorem x_kR2 : kR2 b L x M = (b L M).bind (r2D x) := rfl
theorem x_iR2 : iR2 a b L M = (a L M).bind (kR2 b L) := by
  unfold iR2
  congr 1
theorem x_iE : iE a L M = (a L M).bind itD := by
  unfold iE
  congr 1
theorem x_tY : tY L M = .ok true M := rfl
def kLc (p : Pat) (tt : LT) (te : LE) (vs : List Nat) (L : Env) (v : IV) (M : Mem) : Res D := lcL v p tt te M.length (v.size M + 1) 0 (wipeL L vs) (M ++ [.lst []])
theorem x_kLc {p : Pat} {tt : LT} {vs : List Nat} {v : IV} : kLc p tt a vs L v M = lcL v p tt a M.length (v.size M + 1) 0 (wipeL L vs) (M ++ [.lst []]) := rfl
theorem x_eLc {it : LI} {p : Pat} {tt : LT} {vs : List Nat} : eLc it p tt a vs L M = (it L M).bind (kLc p tt a vs L) := rfl
theorem x_wN : wipeL L [] = L := rfl
theorem x_wC {vs : List Nat} : wipeL L (i :: vs) = (wipeL L vs).set i none := rfl
end
/-- r ends with a value of which Q holds -/
def T {α : Type} (r : Res α) (Q : α → Mem → Prop) : Prop := match r with
  | .ok a M => Q a M
  | _ => False
theorem T.get {α : Type} {r : Res α} {Q : α → Mem → Prop} (h : T r Q) : ∃ a M, r = .ok a M ∧ Q a M := by
  cases r with
  | ok a M => exact ⟨a, M, rfl, h⟩
  | ex _ _ => exact h.elim
  | no => exact h.elim
theorem T.ok {α : Type} {r : Res α} {Q : α → Mem → Prop} {a : α} {M : Mem} (e : r = .ok a M) (h : Q a M) : T r Q := by subst e; exact h
theorem T.bind {α β : Type} {r : Res α} {f : α → Mem → Res β} {Q : β → Mem → Prop} (h : T r fun a M => T (f a M) Q) : T (r.bind f) Q := by
  cases r with
  | ok a M => exact h
  | ex _ _ => exact h.elim
  | no => exact h.elim
theorem T.mono {α : Type} {r : Res α} {P Q : α → Mem → Prop} (h : T r P) (l : ∀ a M, P a M → Q a M) : T r Q := by
  cases r with
  | ok a M => exact l _ _ h
  | ex _ _ => exact h.elim
  | no => exact h.elim

theorem T_ok {α : Type} {a : α} {M : Mem} {Q : α → Mem → Prop} : T (.ok a M) Q = Q a M := rfl
section
variable {L : Env} {M : Mem} {x c : D} {a : LE} {b : LS} {cs : List (D × LS)}
def kMt (cs : List (D × LS)) (L : Env) (x : D) (M : Mem) : Res (Fl × Env) := mtC x cs L M
theorem x_kMt : kMt cs L x M = mtC x cs L M := rfl
theorem x_sMt : sMt a cs L M = outE L (a L M) (kMt cs L) := rfl
theorem x_mtN : mtC x [] L M = .ok (.nx, L) M := rfl
theorem x_mtC : mtC x ((c, b) :: cs) L M = outE L ((dEq x c M).bind asB) (kIf b (mtC x cs) L) := rfl
theorem x_sWh {f : Nat} {c : LT} {b : LS} : sWh f c b L M = whL c b f L M := rfl
end
end G

/-! P1: plain law: loops by invariants, memories, the pen. No program in sight. -/
namespace G
open PySem L2

/-! ### memories -/
/-- all but the places S stands; the memory grows -/
def Kp (S : Nat → Prop) (M M' : Mem) : Prop := M.length ≤ M'.length ∧ ∀ i, i < M.length → ¬ S i → M'[i]? = M[i]?
abbrev N0 : Nat → Prop := fun _ => False
abbrev N1 (p : Nat) : Nat → Prop := fun i => i = p
theorem Kp.refl {S : Nat → Prop} (M : Mem) : Kp S M M := ⟨Nat.le_refl _, fun _ _ _ => rfl⟩
theorem Kp.trans {S : Nat → Prop} {A B C : Mem} (x : Kp S A B) (y : Kp S B C) : Kp S A C := ⟨Nat.le_trans x.1 y.1, fun i h s => by rw [y.2 i (Nat.lt_of_lt_of_le h x.1) s, x.2 i h s]⟩
theorem Kp.weak {S T : Nat → Prop} {A B : Mem} (x : Kp S A B) (h : ∀ i, i < A.length → S i → T i) : Kp T A B := ⟨x.1, fun i hi t => x.2 i hi fun s => t (h i hi s)⟩
theorem Kp.of0 {S : Nat → Prop} {A B : Mem} (x : Kp N0 A B) : Kp S A B := x.weak fun _ _ h => h.elim
theorem Kp.push {S : Nat → Prop} (M : Mem) (o : O) : Kp S M (M ++ [o]) := ⟨by simp, fun i h _ => List.getElem?_append_left h⟩
theorem Kp.set {M : Mem} {p : Nat} {o : O} : Kp (N1 p) M (M.set p o) := ⟨by simp, fun i _ s => List.getElem?_set_ne (Ne.symm s)⟩
theorem Kp.at {S : Nat → Prop} {A B : Mem} (x : Kp S A B) {i : Nat} {o : O} (h : A[i]? = some o) (s : ¬ S i) : B[i]? = some o := by
  rw [x.2 i (List.getElem?_eq_some_iff.mp h).1 s]; exact h
theorem mem_lt {M : Mem} {i : Nat} {o : O} (h : M[i]? = some o) : i < M.length := (List.getElem?_eq_some_iff.mp h).1
theorem Kp.lt {S : Nat → Prop} {A B : Mem} (x : Kp S A B) {i : Nat} (h : i < A.length) : i < B.length := Nat.lt_of_lt_of_le h x.1
theorem push_at (M : Mem) (o : O) : (M ++ [o])[M.length]? = some o := by rw [List.getElem?_append_right (Nat.le_refl _), Nat.sub_self]; rfl
theorem set_at {M : Mem} {i : Nat} {o : O} (h : i < M.length) : (M.set i o)[i]? = some o := List.getElem?_set_self h

/-! ### loops -/
/-- a for that runs through: n turns, each keeps I -/
theorem forL_all {v : IV} {p : Pat} {b : LS} {n : Nat} (I : Nat → Env → Mem → Prop) (hs : ∀ i L M, i < n → I i L M → ∃ d L1, v.at i M = some d ∧ p.put d L = some L1 ∧ ∃ fl L2 M2, b L1 M = .ok (fl, L2) M2 ∧ (fl = .nx ∨ fl = .ct) ∧ I (i + 1) L2 M2)
    (he : ∀ L M, I n L M → v.at n M = none) : ∀ (f i : Nat) (L : Env) (M : Mem), I i L M → i ≤ n → n - i < f → ∃ L' M', forL v p b f i L M = .ok (.nx, L') M' ∧ I n L' M'
  | 0, _, _, _, _, _, h => absurd h (Nat.not_lt_zero _)
  | f + 1, i, L, M, hI, hi, hf => by
    by_cases q : i = n
    · subst q
      refine ⟨L, M, ?_, hI⟩
      simp only [forL, he L M hI]
    · obtain ⟨d, L1, h1, h2, fl, L2, M2, h3, h4, h5⟩ := hs i L M (by omega) hI
      obtain ⟨L', M', g1, g2⟩ := forL_all I hs he f (i + 1) L2 M2 h5 (by omega) (by omega)
      refine ⟨L', M', ?_, g2⟩
      simp only [forL, h1, h2, h3, Res.bind]
      rcases h4 with rfl | rfl <;> exact g1
/-- a comprehension that runs through -/
theorem lcL_all {v : IV} {p : Pat} {tt : LT} {te : LE} {n m : Nat} {L : Env} (I : Nat → List D → Mem → Prop)
    (hs : ∀ i acc M, i < n → I i acc M → M[m]? = some (.lst acc) ∧ ∃ d L1, v.at i M = some d ∧ p.put d L = some L1 ∧ ∃ k M1, tt L1 M = .ok k M1 ∧
      ((k = false ∧ I (i + 1) acc M1) ∨ (k = true ∧ ∃ y M2, te L1 M1 = .ok y M2 ∧ M2[m]? = some (.lst acc) ∧ acc.length < big ∧ I (i + 1) (acc ++ [y]) (M2.set m (.lst (acc ++ [y]))))))
    (he : ∀ acc M, I n acc M → v.at n M = none) : ∀ (f i : Nat) (acc : List D) (M : Mem), I i acc M → i ≤ n → n - i < f → ∃ acc' M', lcL v p tt te m f i L M = .ok (.loc m) M' ∧ I n acc' M'
  | 0, _, _, _, _, _, h => absurd h (Nat.not_lt_zero _)
  | f + 1, i, acc, M, hI, hi, hf => by
    by_cases q : i = n
    · subst q
      refine ⟨acc, M, ?_, hI⟩
      simp only [lcL, he acc M hI]
    · obtain ⟨h0, d, L1, h1, h2, k, M1, h3, h4⟩ := hs i acc M (by omega) hI
      rcases h4 with ⟨rfl, h5⟩ | ⟨rfl, y, M2, h5, h6, h7, h8⟩
      · obtain ⟨acc', M', g1, g2⟩ := lcL_all I hs he f (i + 1) acc M1 h5 (by omega) (by omega)
        refine ⟨acc', M', ?_, g2⟩
        simp only [lcL, h1, h2, h3, noX, Res.bind, Bool.false_eq_true, if_false]
        exact g1
      · obtain ⟨acc', M', g1, g2⟩ := lcL_all I hs he f (i + 1) (acc ++ [y]) _ h8 (by omega) (by omega)
        refine ⟨acc', M', ?_, g2⟩
        simp only [lcL, h1, h2, h3, noX, Res.bind, if_true, h5, h6, h7]
        exact g1
theorem rng_at {lo : Int} {n i : Nat} {M : Mem} (h : i < n) : (IV.rng lo n).at i M = some (.int (lo + i)) := by simp only [IV.at, h, if_true]
theorem rng_end {lo : Int} {n : Nat} {M : Mem} : (IV.rng lo n).at n M = none := by simp only [IV.at, Nat.lt_irrefl, if_false]

/-! ### the pen: three ints; what is drawn, how it turns -/
def drawV (a b c n : Int) : Int := if 0 < a then a.fmod n else
  let b' := (b * 48271 + 1009 * (c + 1) + 7).fmod 2147483647
  let s := (b' * b' + 69621 * b' + 11).fmod 2147483629
  let s' := (s * s + 40014 * s).fmod 2147483587
  (s'.fdiv 16).fmod n
def drawA (a n : Int) : Int := if 0 < a then a.fdiv n else a
def drawB (a b c : Int) : Int := if 0 < a then b else (b * 48271 + 1009 * (c + 1) + 7).fmod 2147483647
def drawC (a c : Int) : Int := if 0 < a then c else c + 1
theorem fmod_lt {a b : Int} (h : 0 < b) : 0 ≤ a.fmod b ∧ a.fmod b < b := by
  rw [Int.fmod_eq_emod_of_nonneg a (Int.le_of_lt h)]
  exact ⟨Int.emod_nonneg _ (by omega), Int.emod_lt_of_pos _ h⟩
theorem drawV_lt {a b c n : Int} (h : 0 < n) : 0 ≤ drawV a b c n ∧ drawV a b c n < n := by
  unfold drawV
  split
  · exact fmod_lt h
  · exact fmod_lt h
/-- the pen stands at p; t bounds how often it was drawn from -/
def PenAt (t p : Nat) (M : Mem) : Prop := ∃ a b c : Int, M[p]? = some (.lst [.int a, .int b, .int c]) ∧ 0 ≤ a ∧ 0 ≤ b ∧ b < 2147483648 ∧ 0 ≤ c ∧ c ≤ t
theorem PenAt.lt {t p : Nat} {M : Mem} (h : PenAt t p M) : p < M.length := let ⟨_, _, _, h, _⟩ := h; mem_lt h
theorem PenAt.mono {t u p : Nat} {M : Mem} (h : PenAt t p M) (l : t ≤ u) : PenAt u p M := by
  obtain ⟨a, b, c, h1, h2, h3, h4, h5, h6⟩ := h
  exact ⟨a, b, c, h1, h2, h3, h4, h5, by omega⟩
theorem PenAt.kp {t p : Nat} {S : Nat → Prop} {M M' : Mem} (h : PenAt t p M) (k : Kp S M M') (s : ¬ S p) : PenAt t p M' := by
  obtain ⟨a, b, c, h1, h2⟩ := h
  exact ⟨a, b, c, k.at h1 s, h2⟩
theorem natAbs_lt {i : Int} {n : Nat} (h0 : 0 ≤ i) (h : i < ((n : Nat) : Int)) : i.natAbs < n := by omega
theorem log_le {i : Int} {n : Nat} (h : i.natAbs < 2 ^ n) (hn : 0 < n) : i.natAbs.log2 < n := PySem.Flt.log2_lt_of hn h
theorem mul_ok {i j : Int} {M : Mem} {a b : Nat} (ha : i.natAbs < 2 ^ a) (hb : j.natAbs < 2 ^ b) (h0 : 0 < a) (h1 : 0 < b) (h : a + b ≤ 1000000) : dMul (.int i) (.int j) M = .ok (.int (i * j)) M := by
  have x := log_le ha h0
  have y := log_le hb h1
  simp only [dMul]
  rw [if_pos (by omega)]
theorem div_ok {i j : Int} {M : Mem} {b : Nat} (h : 0 < j) (hb : j.natAbs < 2 ^ b) (h0 : 0 < b) (h9 : b ≤ 9000) : dDiv (.int i) (.int j) M = .ok (.int (i.fdiv j)) M := by
  have y := log_le hb h0
  simp only [dDiv]
  rw [if_pos ⟨by omega, by omega⟩]
theorem mod_ok {i j : Int} {M : Mem} (h : j ≠ 0) : dMod (.int i) (.int j) M = .ok (.int (i.fmod j)) M := by
  simp only [dMod]
  rw [if_pos h]
end G

/-! P2: plain law: the laws' own helpers. -/
namespace G
open PySem L2

/-! ### places read -/
theorem ix_at {M : Mem} {p : Nat} {ds : List D} {i : Nat} {d : D} (h : M[p]? = some (.lst ds)) (g : ds[i]? = some d) : dIx (.loc p) (.int i) M = .ok d M := by
  simp only [dIx, h, O.items, atI_nat g]
theorem ix_atR {M : Mem} {p : Nat} {ds : List D} {i : Nat} {d : D} (h : M[p]? = some (.rol ds)) (g : ds[i]? = some d) : dIx (.loc p) (.int i) M = .ok d M := by
  simp only [dIx, h, O.items, atI_nat g]
theorem ix_tup {M : Mem} {ds : List D} {i : Nat} {d : D} (g : ds[i]? = some d) : dIx (.tup ds) (.int i) M = .ok d M := by
  simp only [dIx, atI_nat g]
theorem set_ok {M : Mem} {p : Nat} {ds : List D} {i : Nat} {v : D} (h : M[p]? = some (.lst ds)) (g : i < ds.length) : dSet (.loc p) (.int i) v M = .ok () (M.set p (.lst (ds.set i v))) := by
  have e : ixN ds.length (i : Int) = some i := by
    unfold ixN
    rw [if_pos (by omega), if_pos (by omega)]
    simp
  simp only [dSet, h, e]
theorem len_at {M : Mem} {p : Nat} {ds : List D} (h : M[p]? = some (.lst ds)) : bLen [.loc p] M = .ok (.int ds.length) M := by simp only [bLen, itemsD, h, O.items]
theorem len_atR {M : Mem} {p : Nat} {ds : List D} (h : M[p]? = some (.rol ds)) : bLen [.loc p] M = .ok (.int ds.length) M := by simp only [bLen, itemsD, h, O.items]
theorem len_tup {M : Mem} {ds : List D} : bLen [.tup ds] M = .ok (.int ds.length) M := by simp only [bLen, itemsD]

/-! ### draw -/
def L_draw : LS :=
  (sSeq (sIf (tCm (dCmpI fun i j => decide (j < i)) (eB dIx (eV 0) (eC (.int 0))) (eC (.int 0)))
  (sSeq (sSet 2 (eB dMod (eB dIx (eV 0) (eC (.int 0))) (eV 1)))
  (sSeq (sSub (eV 0) (eC (.int 0)) (eB dDiv (eB dIx (eV 0) (eC (.int 0))) (eV 1)))
  (sRet (eV 2))))
  sNil)
  (sSeq (sSub (eV 0) (eC (.int 2)) (eB dAdd (eB dIx (eV 0) (eC (.int 2))) (eC (.int 1))))
  (sSeq (sSub (eV 0) (eC (.int 1)) (eB dMod (eB dAdd (eB dAdd (eB dMul (eB dIx (eV 0) (eC (.int 1))) (eC (.int 48271))) (eB dMul (eC (.int 1009)) (eB dIx (eV 0) (eC (.int 2))))) (eC (.int 7))) (eC (.int 2147483647))))
  (sSeq (sSet 3 (eB dMod (eB dAdd (eB dAdd (eB dMul (eB dIx (eV 0) (eC (.int 1))) (eB dIx (eV 0) (eC (.int 1)))) (eB dMul (eC (.int 69621)) (eB dIx (eV 0) (eC (.int 1))))) (eC (.int 11))) (eC (.int 2147483629))))
  (sSeq (sSet 3 (eB dMod (eB dAdd (eB dMul (eV 3) (eV 3)) (eB dMul (eC (.int 40014)) (eV 3))) (eC (.int 2147483587))))
  (sRet (eB dMod (eB dDiv (eV 3) (eC (.int 16))) (eV 1))))))))
theorem pen0 {M : Mem} {p : Nat} {a b c : D} (h : M[p]? = some (.lst [a, b, c])) : dIx (.loc p) (.int 0) M = .ok a M := ix_at (i := 0) h rfl
theorem pen1 {M : Mem} {p : Nat} {a b c : D} (h : M[p]? = some (.lst [a, b, c])) : dIx (.loc p) (.int 1) M = .ok b M := ix_at (i := 1) h rfl
theorem pen2 {M : Mem} {p : Nat} {a b c : D} (h : M[p]? = some (.lst [a, b, c])) : dIx (.loc p) (.int 2) M = .ok c M := ix_at (i := 2) h rfl
theorem pset0 {M : Mem} {p : Nat} {a b c v : D} (h : M[p]? = some (.lst [a, b, c])) : dSet (.loc p) (.int 0) v M = .ok () (M.set p (.lst [v, b, c])) := set_ok (i := 0) h (Nat.lt_of_sub_eq_succ rfl)
theorem pset1 {M : Mem} {p : Nat} {a b c v : D} (h : M[p]? = some (.lst [a, b, c])) : dSet (.loc p) (.int 1) v M = .ok () (M.set p (.lst [a, v, c])) := set_ok (i := 1) h (Nat.lt_of_sub_eq_succ rfl)
theorem pset2 {M : Mem} {p : Nat} {a b c v : D} (h : M[p]? = some (.lst [a, b, c])) : dSet (.loc p) (.int 2) v M = .ok () (M.set p (.lst [a, b, v])) := set_ok (i := 2) h (Nat.lt_of_sub_eq_succ rfl)
theorem draw_eq {p : Nat} {M : Mem} {a b c n : Int} {m : Nat} (h : M[p]? = some (.lst [.int a, .int b, .int c])) (hb0 : 0 ≤ b) (hb : b < 2147483648) (hc0 : 0 ≤ c) (hc : c < 18446744073709551616) (hn : 0 < n) (hnm : n.natAbs < 2 ^ m) (hm : m ≤ 9000) (hm0 : 0 < m) :
    retF (L_draw [some (.loc p), some (.int n), none, none] M) = .ok (.int (drawV a b c n)) (M.set p (.lst [.int (drawA a n), .int (drawB a b c), .int (drawC a c)])) := by
  have hl := mem_lt h
  by_cases ha : 0 < a
  · simp only [L_draw, bind_ok, bind_ex, outE_ok, outE_ex, retF_nx, retF_rt, retF_xc, x_optR, x_eV, x_eC, x_kB, x_eB, x_eU, x_eF, x_kM, x_eM, x_ift, x_iff, x_eIf, x_kTup, x_kLst, x_eTup, x_eLst, x_aN, x_kCc, x_kC, x_aC, x_tV, x_kCn, x_kCm, x_tCm, x_okB, x_tA, x_tO, x_kN, x_tN, x_tCh, x_kCj, x_kCi, x_kCh, x_eCh, x_kNb, x_kAn, x_kOr, x_kNo, x_eAnd, x_eOr, x_eNot, x_kCl, x_eCall, x_kS2, x_kS1, x_eSl, x_oN, x_asO, x_oS, x_mLoc, x_kML, x_eML, x_kM0, x_kMl0, x_eML0, x_truB, x_truI, x_asB, x_cnx, x_crt, x_cbk, x_cct, x_cxc, x_sSeq, x_sNil, x_sBrk, x_sCnt, x_kEx, x_kSet, x_sEx, x_sSet, x_okO, x_putsN, x_putsC, x_kPar, x_sPar, x_kRet, x_sRet, x_sRetN, x_sIf, x_kSb3, x_kSb2, x_kSb1, x_sSub, x_kAsg, x_sAsg, x_pnm, x_ptp, x_kFor, x_sFor, x_itT, x_iR1, x_kR2, x_iR2, x_iE, x_tY, x_wN, x_wC, List.getElem?_cons_zero, List.getElem?_cons_succ, List.set_cons_zero, List.set_cons_succ, List.append_nil, List.nil_append, List.cons_append, List.length_cons, List.length_nil, Nat.reduceLeDiff, Nat.reduceAdd, Bool.not_true, Bool.not_false, T_ok, x_kMt, x_sMt, x_mtN, x_mtC, x_sWh, true_or, true_and, and_true, if_true, if_false, pen0 h, pset0 h, dCmpI, ha, decide_true, mod_ok (i := a) (M := M) (Int.ne_of_gt hn), div_ok (i := a) (M := M) hn hnm hm0 hm, drawV, drawA, drawB, drawC]
  · have s2 := set_at (o := .lst [.int a, .int b, .int (c + 1)]) hl
    have x1 : b.natAbs < 2 ^ 31 := by omega
    have x2 : (c + 1).natAbs < 2 ^ 65 := by omega
    have x3 := @fmod_lt (b * 48271 + 1009 * (c + 1) + 7) 2147483647 (by omega)
    have s3 := @set_at (M.set p (.lst [.int a, .int b, .int (c + 1)])) p (.lst [.int a, .int ((b * 48271 + 1009 * (c + 1) + 7).fmod 2147483647), .int (c + 1)]) (by simpa using hl)
    rw [List.set_set] at s3
    generalize hb' : (b * 48271 + 1009 * (c + 1) + 7).fmod 2147483647 = b' at x3 s3
    have x4 : b'.natAbs < 2 ^ 31 := by omega
    have x5 := @fmod_lt (b' * b' + 69621 * b' + 11) 2147483629 (by omega)
    generalize hs : (b' * b' + 69621 * b' + 11).fmod 2147483629 = s at x5
    have x6 : s.natAbs < 2 ^ 31 := by omega
    simp only [L_draw, bind_ok, bind_ex, outE_ok, outE_ex, retF_nx, retF_rt, retF_xc, x_optR, x_eV, x_eC, x_kB, x_eB, x_eU, x_eF, x_kM, x_eM, x_ift, x_iff, x_eIf, x_kTup, x_kLst, x_eTup, x_eLst, x_aN, x_kCc, x_kC, x_aC, x_tV, x_kCn, x_kCm, x_tCm, x_okB, x_tA, x_tO, x_kN, x_tN, x_tCh, x_kCj, x_kCi, x_kCh, x_eCh, x_kNb, x_kAn, x_kOr, x_kNo, x_eAnd, x_eOr, x_eNot, x_kCl, x_eCall, x_kS2, x_kS1, x_eSl, x_oN, x_asO, x_oS, x_mLoc, x_kML, x_eML, x_kM0, x_kMl0, x_eML0, x_truB, x_truI, x_asB, x_cnx, x_crt, x_cbk, x_cct, x_cxc, x_sSeq, x_sNil, x_sBrk, x_sCnt, x_kEx, x_kSet, x_sEx, x_sSet, x_okO, x_putsN, x_putsC, x_kPar, x_sPar, x_kRet, x_sRet, x_sRetN, x_sIf, x_kSb3, x_kSb2, x_kSb1, x_sSub, x_kAsg, x_sAsg, x_pnm, x_ptp, x_kFor, x_sFor, x_itT, x_iR1, x_kR2, x_iR2, x_iE, x_tY, x_wN, x_wC, List.getElem?_cons_zero, List.getElem?_cons_succ, List.set_cons_zero, List.set_cons_succ, List.append_nil, List.nil_append, List.cons_append, List.length_cons, List.length_nil, Nat.reduceLeDiff, Nat.reduceAdd, Bool.not_true, Bool.not_false, T_ok, x_kMt, x_sMt, x_mtN, x_mtC, x_sWh, true_or, true_and, and_true, if_true, if_false, pen0 h, pen2 h, pset2 h, dCmpI, ha, decide_false, dAdd, pen1 s2, pen2 s2, pset1 s2,
      fun M => @mul_ok b 48271 M 31 16 x1 (by decide) (by omega) (by omega) (by omega),
      fun M => @mul_ok 1009 (c + 1) M 10 65 (by decide) x2 (by omega) (by omega) (by omega), fun M i => @mod_ok i 2147483647 M (by omega), fun M i => @mod_ok i 2147483629 M (by omega), fun M i => @mod_ok i 2147483587 M (by omega), hb', pen1 s3,
      fun M => @mul_ok b' b' M 31 31 x4 x4 (by omega) (by omega) (by omega), fun M => @mul_ok 69621 b' M 17 31 (by decide) x4 (by omega) (by omega) (by omega), hs,
      fun M => @mul_ok s s M 31 31 x6 x6 (by omega) (by omega) (by omega), fun M => @mul_ok 40014 s M 17 31 (by decide) x6 (by omega) (by omega) (by omega),
      fun M i => @div_ok i 16 M 5 (by omega) (by decide) (by omega) (by omega), fun M i => @mod_ok i n M (Int.ne_of_gt hn), drawV, drawA, drawB, drawC, List.set_set]
theorem draw_pen {t p : Nat} {M : Mem} {n : Int} {m : Nat} (h : PenAt t p M) (ht : t < 18446744073709551616) (hn : 0 < n) (hnm : n.natAbs < 2 ^ m) (hm : m ≤ 9000) (hm0 : 0 < m) :
    ∃ v M', retF (L_draw [some (.loc p), some (.int n), none, none] M) = .ok (.int v) M' ∧ 0 ≤ v ∧ v < n ∧ PenAt (t + 1) p M' ∧ Kp (N1 p) M M' ∧ M'.length = M.length := by
  obtain ⟨a, b, c, h1, h2, h3, h4, h5, h6⟩ := h
  refine ⟨_, _, draw_eq h1 h3 h4 h5 (by omega) hn hnm hm hm0, (drawV_lt hn).1, (drawV_lt hn).2, ?_, Kp.set, by simp⟩
  refine ⟨_, _, _, set_at (mem_lt h1), ?_, ?_, ?_, ?_, ?_⟩
  · unfold drawA; split
    · rw [Int.fdiv_eq_ediv_of_nonneg _ (Int.le_of_lt hn)]; exact Int.ediv_nonneg h2 (Int.le_of_lt hn)
    · exact h2
  · unfold drawB; split
    · exact h3
    · exact (fmod_lt (by omega)).1
  · unfold drawB; split
    · exact h4
    · exact Int.lt_trans (fmod_lt (by omega)).2 (by omega)
  · unfold drawC; split <;> omega
  · unfold drawC; split <;> omega

/-! ### cell, pen -/
def L_cell : LS :=
  (sSeq (sIf (tCm (dCmpI fun i j => decide (i < j)) (eV 1) (eF bLen (aC (eV 0) aN)))
  (sRet (eB dIx (eV 0) (eV 1)))
  sNil)
  (sRet (eC (.int 0))))
def L_pen : LS :=
  (sRet (eLst (aC (eF bMax (aC (eC (.int 0)) (aC (eB dSub (eV 0) (eB dPow (eC (.int 10)) (eC (.int 18)))) aN))) (aC (eB dAdd (eB dMod (eV 0) (eC (.int 2147483629))) (eC (.int 1))) (aC (eC (.int 0)) aN)))))
theorem cell_ok {M : Mem} {p : Nat} {ns : List Int} {k : Nat} (h : M[p]? = some (.rol (ns.map D.int))) : ∃ v : Int, retF (L_cell [some (.loc p), some (.int k)] M) = .ok (.int v) M := by
  by_cases q : k < ns.length
  · refine ⟨ns[k], ?_⟩
    have g : (ns.map D.int)[k]? = some (.int ns[k]) := by rw [List.getElem?_map, List.getElem?_eq_getElem q]; rfl
    simp only [L_cell, bind_ok, bind_ex, outE_ok, outE_ex, retF_nx, retF_rt, retF_xc, x_optR, x_eV, x_eC, x_kB, x_eB, x_eU, x_eF, x_kM, x_eM, x_ift, x_iff, x_eIf, x_kTup, x_kLst, x_eTup, x_eLst, x_aN, x_kCc, x_kC, x_aC, x_tV, x_kCn, x_kCm, x_tCm, x_okB, x_tA, x_tO, x_kN, x_tN, x_tCh, x_kCj, x_kCi, x_kCh, x_eCh, x_kNb, x_kAn, x_kOr, x_kNo, x_eAnd, x_eOr, x_eNot, x_kCl, x_eCall, x_kS2, x_kS1, x_eSl, x_oN, x_asO, x_oS, x_mLoc, x_kML, x_eML, x_kM0, x_kMl0, x_eML0, x_truB, x_truI, x_asB, x_cnx, x_crt, x_cbk, x_cct, x_cxc, x_sSeq, x_sNil, x_sBrk, x_sCnt, x_kEx, x_kSet, x_sEx, x_sSet, x_okO, x_putsN, x_putsC, x_kPar, x_sPar, x_kRet, x_sRet, x_sRetN, x_sIf, x_kSb3, x_kSb2, x_kSb1, x_sSub, x_kAsg, x_sAsg, x_pnm, x_ptp, x_kFor, x_sFor, x_itT, x_iR1, x_kR2, x_iR2, x_iE, x_tY, x_wN, x_wC, List.getElem?_cons_zero, List.getElem?_cons_succ, List.set_cons_zero, List.set_cons_succ, List.append_nil, List.nil_append, List.cons_append, List.length_cons, List.length_nil, Nat.reduceLeDiff, Nat.reduceAdd, Bool.not_true, Bool.not_false, T_ok, x_kMt, x_sMt, x_mtN, x_mtC, x_sWh, true_or, true_and, and_true, if_true, if_false, len_atR h, List.length_map, dCmpI, Int.ofNat_lt, q, decide_true, ix_atR h g]
  · refine ⟨0, ?_⟩
    simp only [L_cell, bind_ok, bind_ex, outE_ok, outE_ex, retF_nx, retF_rt, retF_xc, x_optR, x_eV, x_eC, x_kB, x_eB, x_eU, x_eF, x_kM, x_eM, x_ift, x_iff, x_eIf, x_kTup, x_kLst, x_eTup, x_eLst, x_aN, x_kCc, x_kC, x_aC, x_tV, x_kCn, x_kCm, x_tCm, x_okB, x_tA, x_tO, x_kN, x_tN, x_tCh, x_kCj, x_kCi, x_kCh, x_eCh, x_kNb, x_kAn, x_kOr, x_kNo, x_eAnd, x_eOr, x_eNot, x_kCl, x_eCall, x_kS2, x_kS1, x_eSl, x_oN, x_asO, x_oS, x_mLoc, x_kML, x_eML, x_kM0, x_kMl0, x_eML0, x_truB, x_truI, x_asB, x_cnx, x_crt, x_cbk, x_cct, x_cxc, x_sSeq, x_sNil, x_sBrk, x_sCnt, x_kEx, x_kSet, x_sEx, x_sSet, x_okO, x_putsN, x_putsC, x_kPar, x_sPar, x_kRet, x_sRet, x_sRetN, x_sIf, x_kSb3, x_kSb2, x_kSb1, x_sSub, x_kAsg, x_sAsg, x_pnm, x_ptp, x_kFor, x_sFor, x_itT, x_iR1, x_kR2, x_iR2, x_iE, x_tY, x_wN, x_wC, List.getElem?_cons_zero, List.getElem?_cons_succ, List.set_cons_zero, List.set_cons_succ, List.append_nil, List.nil_append, List.cons_append, List.length_cons, List.length_nil, Nat.reduceLeDiff, Nat.reduceAdd, Bool.not_true, Bool.not_false, T_ok, x_kMt, x_sMt, x_mtN, x_mtC, x_sWh, true_or, true_and, and_true, if_true, if_false, len_atR h, List.length_map, dCmpI, Int.ofNat_lt, q, decide_false]
theorem pen_ok {M : Mem} {v : Int} : ∃ a b c, retF (L_pen [some (.int v)] M) = .ok (.loc M.length) (M ++ [.lst [.int a, .int b, .int c]]) ∧ PenAt 0 M.length (M ++ [.lst [.int a, .int b, .int c]]) := by
  have e : ∀ M, dPow (.int 10) (.int 18) M = .ok (.int (10 ^ 18)) M := fun M => by simp only [dPow]; rw [if_pos (by decide)]; rfl
  refine ⟨if v - 10 ^ 18 > 0 then v - 10 ^ 18 else 0, v.fmod 2147483629 + 1, 0, ?_, ?_⟩
  · simp only [L_pen, bind_ok, bind_ex, outE_ok, outE_ex, retF_nx, retF_rt, retF_xc, x_optR, x_eV, x_eC, x_kB, x_eB, x_eU, x_eF, x_kM, x_eM, x_ift, x_iff, x_eIf, x_kTup, x_kLst, x_eTup, x_eLst, x_aN, x_kCc, x_kC, x_aC, x_tV, x_kCn, x_kCm, x_tCm, x_okB, x_tA, x_tO, x_kN, x_tN, x_tCh, x_kCj, x_kCi, x_kCh, x_eCh, x_kNb, x_kAn, x_kOr, x_kNo, x_eAnd, x_eOr, x_eNot, x_kCl, x_eCall, x_kS2, x_kS1, x_eSl, x_oN, x_asO, x_oS, x_mLoc, x_kML, x_eML, x_kM0, x_kMl0, x_eML0, x_truB, x_truI, x_asB, x_cnx, x_crt, x_cbk, x_cct, x_cxc, x_sSeq, x_sNil, x_sBrk, x_sCnt, x_kEx, x_kSet, x_sEx, x_sSet, x_okO, x_putsN, x_putsC, x_kPar, x_sPar, x_kRet, x_sRet, x_sRetN, x_sIf, x_kSb3, x_kSb2, x_kSb1, x_sSub, x_kAsg, x_sAsg, x_pnm, x_ptp, x_kFor, x_sFor, x_itT, x_iR1, x_kR2, x_iR2, x_iE, x_tY, x_wN, x_wC, List.getElem?_cons_zero, List.getElem?_cons_succ, List.set_cons_zero, List.set_cons_succ, List.append_nil, List.nil_append, List.cons_append, List.length_cons, List.length_nil, Nat.reduceLeDiff, Nat.reduceAdd, Bool.not_true, Bool.not_false, T_ok, x_kMt, x_sMt, x_mtN, x_mtC, x_sWh, true_or, true_and, and_true, if_true, if_false, e, dSub, bMax, fun M i => @mod_ok i 2147483629 M (by omega), dAdd]
  · have x := @fmod_lt v 2147483629 (by omega)
    refine ⟨_, _, _, push_at _ _, ?_, by omega, by omega, by omega, by omega⟩
    split <;> omega
end G

/-! P3: plain law: data without places; repr, ==. -/
namespace G
open PySem L2
def nul : Nat → Option PyData := fun _ => none
mutual
theorem reif_nul {f : Nat → Option PyData} : ∀ (d : D) {p : PyData}, reif nul d = some p → reif f d = some p
  | .non, _, e => by unfold reif at e ⊢; exact e
  | .bl _, _, e => by unfold reif at e ⊢; exact e
  | .int _, _, e => by unfold reif at e ⊢; exact e
  | .str _, _, e => by unfold reif at e ⊢; exact e
  | .loc _, _, e => by unfold reif at e; cases e
  | .tup ds, _, e => by
    unfold reif at e ⊢
    cases q : reifs nul ds with
    | none => rw [q] at e; cases e
    | some ps => rw [q] at e; rw [reifs_nul ds q]; exact e
theorem reifs_nul {f : Nat → Option PyData} : ∀ (ds : List D) {ps : List PyData}, reifs nul ds = some ps → reifs f ds = some ps
  | [], _, e => by unfold reifs at e ⊢; exact e
  | d :: ds, _, e => by
    unfold reifs at e ⊢
    cases q : reif nul d with
    | none => rw [q] at e; cases e
    | some x =>
      rw [q] at e
      cases q2 : reifs nul ds with
      | none => rw [q2] at e; cases e
      | some xs => rw [q2] at e; rw [reif_nul d q, reifs_nul ds q2]; exact e
end
theorem int_shown {i : Int} {k : Nat} (hk : 1 ≤ k) (h : i.natAbs < 10 ^ k) : (PyData.shown (.int i)).length ≤ k + 1 := by
  simp only [PyData.shown]
  show (Str.ofString (toString i)).length ≤ _
  have nn : ∀ n : Nat, n < 10 ^ k → (Str.ofString (toString (n : Int))).length ≤ k := fun n hn => by
    rw [PyProof.Rows.ofString_len]
    show (Nat.repr n).length ≤ k
    unfold Nat.repr
    have := PyProof.Rows.digits10_le hk hn
    simpa using this
  by_cases q : i < 0
  · rw [PyProof.Rows.len_text_neg q]
    have e : 0 - i = ((i.natAbs : Nat) : Int) := by omega
    have := nn i.natAbs h
    rw [e]; omega
  · have e : i = ((i.natAbs : Nat) : Int) := by omega
    have := nn i.natAbs h
    rw [e]; omega
/-- data without places: depth at most k, text at most n -/
def Fit (k n : Nat) (d : D) : Prop := ∃ p, reif nul d = some p ∧ tame p = true ∧ p.depth ≤ k ∧ p.shown.length ≤ n
def Fits (k n : Nat) (ds : List D) : Prop := ∃ ps, reifs nul ds = some ps ∧ tames ps = true ∧ PyData.depthAll ps ≤ k ∧ ((PyData.shownAll ps).map (·.length)).sum ≤ ds.length * n ∧ ps.length = ds.length
theorem Fit.int {i : Int} {n : Nat} (hn : 1 ≤ n) (h4 : n ≤ 4300) (h : i.natAbs < 10 ^ n) : Fit 0 (n + 1) (.int i) := by
  refine ⟨.int i, rfl, ?_, Nat.le_of_eq rfl, int_shown hn h⟩
  simp only [tame, decide_eq_true_eq]
  exact Nat.lt_of_lt_of_le h (Nat.pow_le_pow_right (by omega) h4)
theorem Fit.bl {b : Bool} : Fit 0 5 (.bl b) := ⟨.bool b, rfl, rfl, Nat.le_of_eq rfl, by cases b <;> decide⟩
theorem Fit.non : Fit 0 4 .non := ⟨.none, rfl, rfl, Nat.le_of_eq rfl, by decide⟩
theorem Fit.mono {k n k' n' : Nat} {d : D} (h : Fit k n d) (hk : k ≤ k') (hn : n ≤ n') : Fit k' n' d := let ⟨p, a, b, c, e⟩ := h; ⟨p, a, b, Nat.le_trans c hk, Nat.le_trans e hn⟩
theorem Fits.of {k n : Nat} : ∀ {ds : List D}, (∀ d ∈ ds, Fit k n d) → Fits k n ds
  | [], _ => ⟨[], rfl, rfl, Nat.zero_le _, by simp [PyData.shownAll], rfl⟩
  | d :: ds, h => by
    obtain ⟨p, a, b, c, e⟩ := h d (by simp)
    obtain ⟨ps, a', b', c', e', l'⟩ := Fits.of fun x m => h x (List.mem_cons_of_mem _ m)
    refine ⟨p :: ps, ?_, ?_, ?_, ?_, ?_⟩
    · unfold reifs; rw [a, a']; rfl
    · simp only [tames, b, b', Bool.and_self]
    · simp only [PyData.depthAll]; exact Nat.max_le.mpr ⟨c, c'⟩
    · simp only [PyData.shownAll, List.map_cons, List.sum_cons, List.length_cons]
      rw [Nat.add_mul, Nat.one_mul]; omega
    · simp only [List.length_cons, l']
theorem Fit.tup {k n m : Nat} {ds : List D} (h : ∀ d ∈ ds, Fit k n d) (hl : ds.length ≤ m) : Fit (k + 1) (m * (n + 2) + 3) (.tup ds) := by
  obtain ⟨ps, a, b, c, e, l⟩ := Fits.of h
  refine ⟨.tuple ps, ?_, ?_, ?_, ?_⟩
  · unfold reif; rw [a]; rfl
  · simpa only [tame] using b
  · simp only [PyData.depth]; omega
  · simp only [PyData.shown]
    have h1 := tupleText_len_le (PyData.shownAll ps)
    have h2 := PyData.shownAll_length ps
    have h3 : ds.length * (n + 2) ≤ m * (n + 2) := Nat.mul_le_mul_right _ hl
    rw [Nat.mul_add] at h3
    omega
theorem Fit.repr {k n : Nat} {d : D} (h : Fit k n d) (hk : k ≤ 60) (hn : n ≤ big) : ∃ s, ∀ M, bRepr [d] M = .ok (.str s) M := by
  obtain ⟨p, a, b, c, e⟩ := h
  refine ⟨p.shown, fun M => ?_⟩
  have z : tame p = true ∧ p.depth ≤ 60 ∧ p.shown.length ≤ big := ⟨b, Nat.le_trans c hk, Nat.le_trans e hn⟩
  simp only [bRepr, pyD, reif_nul d a]
  rw [if_pos z]
theorem eq_str {s t : Str} {M : Mem} : dEq (.str s) (.str t) M = .ok (.bl (s == t)) M := rfl
theorem ne_str {s t : Str} {M : Mem} : dNe (.str s) (.str t) M = .ok (.bl (s != t)) M := rfl
theorem eq_int {i j : Int} {M : Mem} : dEq (.int i) (.int j) M = .ok (.bl (i == j)) M := rfl
theorem ne_int {i j : Int} {M : Mem} : dNe (.int i) (.int j) M = .ok (.bl (i != j)) M := rfl
theorem eq_of {d e : D} {p q : PyData} {M : Mem} (h0 : strsD d e = none) (h1 : reif nul d = some p) (h2 : reif nul e = some q) (s1 : SeqAt.shaped p = true) (s2 : SeqAt.shaped q = true) : dEq d e M = .ok (.bl (PyData.eqv p q)) M := by
  simp only [dEq, pyD, h0, reif_nul d h1, reif_nul e h2, s1, s2, and_self, if_true]
theorem ne_of {d e : D} {p q : PyData} {M : Mem} (h0 : strsD d e = none) (h1 : reif nul d = some p) (h2 : reif nul e = some q) (s1 : SeqAt.shaped p = true) (s2 : SeqAt.shaped q = true) : dNe d e M = .ok (.bl (!PyData.eqv p q)) M := by
  simp only [dNe, pyD, h0, reif_nul d h1, reif_nul e h2, s1, s2, and_self, if_true]
end G

/-! P4: plain law: comprehensions and tests that the laws share. -/
namespace G
open PySem L2
theorem Kp.setn {S : Nat → Prop} {A B : Mem} {m : Nat} {o : O} (x : Kp S A B) (h : A.length ≤ m) : Kp S A (B.set m o) := ⟨by simpa using x.1, fun i hi s => by
  rw [List.getElem?_set_ne (by omega), x.2 i hi s]⟩
theorem Kp.pushn {S : Nat → Prop} {A B : Mem} {o : O} (x : Kp S A B) : Kp S A (B ++ [o]) := x.trans (Kp.push B o)
theorem Kp.set1 {A B : Mem} {p : Nat} {o : O} (x : Kp (N1 p) A B) : Kp (N1 p) A (B.set p o) := ⟨by simpa using x.1, fun i hi s => by
  rw [List.getElem?_set_ne (Ne.symm s), x.2 i hi s]⟩
/-- v walks over ds, whatever is written elsewhere -/
def Iw (S : Nat → Prop) (v : IV) (ds : List D) (M : Mem) : Prop := ∀ M', Kp S M M' → (∀ i, v.at i M' = ds[i]?) ∧ v.size M' = ds.length
theorem Iw.tup {S : Nat → Prop} {ds : List D} {M : Mem} : Iw S (.tup ds) ds M := fun _ _ => ⟨fun _ => rfl, rfl⟩
theorem Iw.loc {S : Nat → Prop} {n : Nat} {o : O} {M : Mem} (h : M[n]? = some o) (s : ¬ S n) : Iw S (.loc n) o.items M := fun M' k => by
  have e := k.at h s
  exact ⟨fun i => by simp only [IV.at, e], by simp only [IV.size, e]⟩
def rngL (lo : Int) (n : Nat) : List D := (List.range n).map fun i => .int (lo + (i : Nat))
theorem rngL_at {lo : Int} {n i : Nat} (h : i < n) : (rngL lo n)[i]? = some (.int (lo + i)) := by
  simp [rngL, h]
theorem rngL_len {lo : Int} {n : Nat} : (rngL lo n).length = n := by simp [rngL]
theorem Iw.rng {S : Nat → Prop} {lo : Int} {n : Nat} {M : Mem} : Iw S (.rng lo n) (rngL lo n) M := fun _ _ => ⟨fun i => by
  by_cases h : i < n
  · rw [rngL_at h]; simp only [IV.at, h, if_true]
  · rw [List.getElem?_eq_none (by rw [rngL_len]; omega)]; simp only [IV.at, h, if_false], by rw [rngL_len]; rfl⟩
/-- a comprehension without a test, with an invariant: S are the places written beside the new list -/
theorem lc_gen {S : Nat → Prop} {it : LI} {v : IV} {ds : List D} {j : Nat} {te : LE} {vs : List Nat} {L : Env} {M M0 : Mem} (P : Nat → List D → Mem → Prop)
    (hi : it L M = .ok v M0) (hv : Iw S v ds M0) (h0 : P 0 [] (M0 ++ [.lst []])) (hl : ds.length ≤ big)
    (hs : ∀ i acc M' d, ds[i]? = some d → acc.length = i → P i acc M' → Kp S M0 M' → M'[M0.length]? = some (.lst acc) → ∃ y M2, te ((wipeL L vs).set j (some d)) M' = .ok y M2 ∧ Kp S M0 M2 ∧ M2[M0.length]? = some (.lst acc) ∧ P (i + 1) (acc ++ [y]) (M2.set M0.length (.lst (acc ++ [y])))) :
    ∃ acc M', eLc it (.nm j) tY te vs L M = .ok (.loc M0.length) M' ∧ P ds.length acc M' ∧ acc.length = ds.length ∧ M'[M0.length]? = some (.lst acc) ∧ Kp S M0 M' := by
  rw [x_eLc, hi, bind_ok, x_kLc, (hv M0 (Kp.refl _)).2]
  obtain ⟨acc, M', e, h⟩ := lcL_all (v := v) (p := .nm j) (tt := tY) (te := te) (n := ds.length) (m := M0.length) (L := wipeL L vs)
    (fun i acc M' => P i acc M' ∧ acc.length = i ∧ M'[M0.length]? = some (.lst acc) ∧ Kp S M0 M')
    (fun i acc M' hi ⟨a, b, c, d⟩ => by
      have hat : v.at i M' = some ds[i] := by rw [(hv M' d).1 i]; exact List.getElem?_eq_getElem hi
      obtain ⟨y, M2, e1, e2, e3, e4⟩ := hs i acc M' _ (List.getElem?_eq_getElem hi) b a d c
      exact ⟨c, _, _, hat, rfl, true, M', rfl, Or.inr ⟨rfl, y, M2, e1, e3, by omega, e4, by simp [b], set_at (mem_lt e3), e2.setn (Nat.le_refl _)⟩⟩)
    (fun acc M' ⟨a, b, c, d⟩ => by rw [(hv M' d).1]; exact List.getElem?_eq_none (Nat.le_refl _))
    (ds.length + 1) 0 [] (M0 ++ [.lst []]) ⟨h0, rfl, push_at _ _, Kp.push _ _⟩ (Nat.zero_le _) (by omega)
  exact ⟨acc, M', e, h⟩
theorem set_push {M : Mem} {a b : O} : (M ++ [a]).set M.length b = M ++ [b] := by
  rw [List.set_append_right _ _ (Nat.le_refl _), Nat.sub_self]; rfl
/-- a comprehension whose step writes nothing -/
theorem lc_pure {it : LI} {v : IV} {ds : List D} {j : Nat} {te : LE} {vs : List Nat} {L : Env} {M M0 : Mem} (g : D → D)
    (hi : it L M = .ok v M0) (hv : Iw N0 v ds M0) (hl : ds.length ≤ big)
    (hs : ∀ (i : Nat) d M', ds[i]? = some d → Kp N0 M0 M' → te ((wipeL L vs).set j (some d)) M' = .ok (g d) M') :
    eLc it (.nm j) tY te vs L M = .ok (.loc M0.length) (M0 ++ [.lst (ds.map g)]) := by
  obtain ⟨acc, M', e, ⟨h, rfl⟩, _⟩ := lc_gen (S := N0) (fun i acc M' => acc = (ds.take i).map g ∧ M' = M0 ++ [.lst acc]) hi hv ⟨rfl, rfl⟩ hl
    (fun i acc M' d hd hl ⟨h1, h2⟩ k c => by
      refine ⟨g d, M', hs i d M' hd k, k, c, ?_, ?_⟩
      · rw [h1, List.take_add_one, hd]; simp
      · subst h2; exact set_push)
  rw [e, h, List.take_length]
theorem asBs_rep : ∀ n, asBs (List.replicate n (.bl true)) = some (List.replicate n true)
  | 0 => rfl
  | n + 1 => by simp only [List.replicate_succ, asBs, asBs_rep n, Option.map_some]
theorem all_rep {M : Mem} {m n : Nat} (h : M[m]? = some (.lst (List.replicate n (.bl true)))) : bAll [.loc m] M = .ok (.bl true) M := by
  simp only [bAll, locD, h, O.items, Option.bind_some, asBs_rep]
  simp
/-- all(..), all of it true -/
theorem all_true {it : LI} {v : IV} {ds : List D} {j : Nat} {te : LE} {vs : List Nat} {L : Env} {M M0 : Mem}
    (hi : it L M = .ok v M0) (hv : Iw N0 v ds M0) (hl : ds.length ≤ big)
    (hs : ∀ (i : Nat) d M', ds[i]? = some d → Kp N0 M0 M' → ∃ M2, te ((wipeL L vs).set j (some d)) M' = .ok (.bl true) M2 ∧ Kp N0 M' M2) :
    ∃ M', eF bAll (aC (eLc it (.nm j) tY te vs) aN) L M = .ok (.bl true) M' ∧ Kp N0 M0 M' := by
  obtain ⟨acc, M', e, rfl, h2, h3, h4⟩ := lc_gen (S := N0) (fun i acc M' => acc = List.replicate i (.bl true)) hi hv rfl hl
    (fun i acc M' d hd hl h1 k c => by
      obtain ⟨M2, e1, e2⟩ := hs i d M' hd k
      refine ⟨_, M2, e1, k.trans e2, e2.at c id, ?_⟩
      rw [h1, List.replicate_succ'])
  refine ⟨M', ?_, h4⟩
  simp only [bind_ok, bind_ex, outE_ok, outE_ex, retF_nx, retF_rt, retF_xc, x_optR, x_eV, x_eC, x_kB, x_eB, x_eU, x_eF, x_kM, x_eM, x_ift, x_iff, x_eIf, x_kTup, x_kLst, x_eTup, x_eLst, x_aN, x_kCc, x_kC, x_aC, x_tV, x_kCn, x_kCm, x_tCm, x_okB, x_tA, x_tO, x_kN, x_tN, x_tCh, x_kCj, x_kCi, x_kCh, x_eCh, x_kNb, x_kAn, x_kOr, x_kNo, x_eAnd, x_eOr, x_eNot, x_kCl, x_eCall, x_kS2, x_kS1, x_eSl, x_oN, x_asO, x_oS, x_mLoc, x_kML, x_eML, x_kM0, x_kMl0, x_eML0, x_truB, x_truI, x_asB, x_cnx, x_crt, x_cbk, x_cct, x_cxc, x_sSeq, x_sNil, x_sBrk, x_sCnt, x_kEx, x_kSet, x_sEx, x_sSet, x_okO, x_putsN, x_putsC, x_kPar, x_sPar, x_kRet, x_sRet, x_sRetN, x_sIf, x_kSb3, x_kSb2, x_kSb1, x_sSub, x_kAsg, x_sAsg, x_pnm, x_ptp, x_kFor, x_sFor, x_itT, x_iR1, x_kR2, x_iR2, x_iE, x_tY, x_wN, x_wC, List.getElem?_cons_zero, List.getElem?_cons_succ, List.set_cons_zero, List.set_cons_succ, List.append_nil, List.nil_append, List.cons_append, List.length_cons, List.length_nil, Nat.reduceLeDiff, Nat.reduceAdd, Bool.not_true, Bool.not_false, T_ok, x_kMt, x_sMt, x_mtN, x_mtC, x_sWh, true_or, true_and, and_true, if_true, if_false, e]
  rw [all_rep h3]
theorem isi_ii {i : Int} {M : Mem} : bIsi "int" [.int i] M = .ok (.bl true) M := rfl
theorem isi_bi {i : Int} {M : Mem} : bIsi "bool" [.int i] M = .ok (.bl false) M := rfl
theorem isi_tt {ds : List D} {M : Mem} : bIsi "tuple" [.tup ds] M = .ok (.bl true) M := rfl
theorem app_ok {M : Mem} {n : Nat} {ds : List D} {y : D} (h : M[n]? = some (.lst ds)) (hl : ds.length < big) : mApp (.loc n) [y] M = .ok .non (M.set n (.lst (ds ++ [y]))) := by
  simp only [mApp, h]; rw [if_pos hl]
theorem list_at {M : Mem} {n : Nat} {ds : List D} (h : M[n]? = some (.lst ds)) : bList [.loc n] M = .ok (.loc M.length) (M ++ [.lst ds]) := by simp only [bList, itemsD, h, O.items]
theorem list_tup {M : Mem} {ds : List D} : bList [.tup ds] M = .ok (.loc M.length) (M ++ [.lst ds]) := by simp only [bList, itemsD]
theorem tuple_at {M : Mem} {n : Nat} {ds : List D} (h : M[n]? = some (.lst ds)) : bTuple [.loc n] M = .ok (.tup ds) M := by simp only [bTuple, itemsD, h, O.items]
theorem rev_at {M : Mem} {n : Nat} {ds : List D} (h : M[n]? = some (.lst ds)) : dRev (.loc n) M = .ok (.loc M.length) (M ++ [.lst ds.reverse]) := by simp only [dRev, h, O.items]
theorem shr_ok {i : Int} {j : Nat} {M : Mem} : dShr (.int i) (.int j) M = .ok (.int (i / 2 ^ j)) M := by
  simp only [dShr]; rw [if_pos (by omega), Int.toNat_natCast]
theorem shl_ok {i : Int} {j : Nat} {M : Mem} {a : Nat} (h : i.natAbs < 2 ^ a) (h0 : 0 < a) (hj : a + j ≤ 1000000) : dShl (.int i) (.int j) M = .ok (.int (i * 2 ^ j)) M := by
  have := log_le h h0
  simp only [dShl]; rw [if_pos ⟨by omega, by omega⟩, Int.toNat_natCast]
theorem and1 (i : Int) : Builtin.bitAnd i 1 = i % 2 := by
  have := PySem.W.kbt_mask i 1
  simpa using this
/-- a for that runs through, one name -/
theorem for_T {v : IV} {j : Nat} {b : LS} {n : Nat} {L : Env} {M : Mem} (I : Nat → Env → Mem → Prop) (h0 : I 0 L M)
    (hs : ∀ i L M, i < n → I i L M → ∃ d, v.at i M = some d ∧ T (b (L.set j (some d)) M) fun r M2 => (r.1 = .nx ∨ r.1 = .ct) ∧ I (i + 1) r.2 M2)
    (he : ∀ L M, I n L M → v.at n M = none) : ∃ L' M', forL v (.nm j) b (n + 1) 0 L M = .ok (.nx, L') M' ∧ I n L' M' :=
  forL_all I (fun i L M hi h => by
    obtain ⟨d, e, t⟩ := hs i L M hi h
    obtain ⟨⟨fl, L2⟩, M2, e2, h2, h3⟩ := t.get
    exact ⟨d, _, e, rfl, fl, L2, M2, e2, h2, h3⟩) he (n + 1) 0 L M h0 (Nat.zero_le _) (by omega)
end G

/-! X0: the laws' helpers over any callee that does as asked. -/
namespace G
open PySem L2
def IsDraw (f : Fn) : Prop := ∀ {t p : Nat} {M : Mem} {n : Int} (m : Nat), PenAt t p M → t < 1000000000 → 0 < n → n.natAbs < 2 ^ m → m ≤ 9000 → 0 < m →
  ∃ v M', f [.loc p, .int n] M = .ok (.int v) M' ∧ 0 ≤ v ∧ v < n ∧ PenAt (t + 1) p M' ∧ Kp (N1 p) M M' ∧ M'.length = M.length
theorem isDraw {f : Fn} (h : ∀ d e M, f [d, e] M = retF (L_draw [some d, some e, none, none] M)) : IsDraw f := fun m hp ht hn hnm hm hm0 => by
  rw [h]; exact draw_pen hp (by omega) hn hnm hm hm0
def IsPick (f : Fn) : Prop := ∀ {t p q : Nat} {M : Mem} {ds : List D}, PenAt t p M → t < 1000000000 → M[q]? = some (.lst ds) → q ≠ p → 0 < ds.length → ds.length < 1000 →
  ∃ d M', d ∈ ds ∧ f [.loc p, .loc q] M = .ok d M' ∧ PenAt (t + 1) p M' ∧ Kp (N1 p) M M' ∧ M'.length = M.length
def L_pick (dr : Fn) : LS := (sRet (eB dIx (eV 1) (eCall dr [] (aC (eV 0) (aC (eF bLen (aC (eV 1) aN)) aN)))))
theorem isPick {f dr : Fn} (hd : IsDraw dr) (h : ∀ d e M, f [d, e] M = retF (L_pick dr [some d, some e] M)) : IsPick f := fun {t p q M ds} hp ht hq hpq h0 h1 => by
  obtain ⟨v, M', e, h2, h3, h4, h5, h6⟩ := hd (n := ds.length) 10 hp ht (by omega) (by omega) (by omega) (by omega)
  obtain ⟨j, rfl⟩ := Int.eq_ofNat_of_zero_le h2
  have hj : j < ds.length := by omega
  refine ⟨ds[j], M', List.getElem_mem hj, ?_, h4, h5, h6⟩
  rw [h]
  simp only [L_pick, bind_ok, bind_ex, outE_ok, outE_ex, retF_nx, retF_rt, retF_xc, x_optR, x_eV, x_eC, x_kB, x_eB, x_eU, x_eF, x_kM, x_eM, x_ift, x_iff, x_eIf, x_kTup, x_kLst, x_eTup, x_eLst, x_aN, x_kCc, x_kC, x_aC, x_tV, x_kCn, x_kCm, x_tCm, x_okB, x_tA, x_tO, x_kN, x_tN, x_tCh, x_kCj, x_kCi, x_kCh, x_eCh, x_kNb, x_kAn, x_kOr, x_kNo, x_eAnd, x_eOr, x_eNot, x_kCl, x_eCall, x_kS2, x_kS1, x_eSl, x_oN, x_asO, x_oS, x_mLoc, x_kML, x_eML, x_kM0, x_kMl0, x_eML0, x_truB, x_truI, x_asB, x_cnx, x_crt, x_cbk, x_cct, x_cxc, x_sSeq, x_sNil, x_sBrk, x_sCnt, x_kEx, x_kSet, x_sEx, x_sSet, x_okO, x_putsN, x_putsC, x_kPar, x_sPar, x_kRet, x_sRet, x_sRetN, x_sIf, x_kSb3, x_kSb2, x_kSb1, x_sSub, x_kAsg, x_sAsg, x_pnm, x_ptp, x_kFor, x_sFor, x_itT, x_iR1, x_kR2, x_iR2, x_iE, x_tY, x_wN, x_wC, List.getElem?_cons_zero, List.getElem?_cons_succ, List.set_cons_zero, List.set_cons_succ, List.append_nil, List.nil_append, List.cons_append, List.length_cons, List.length_nil, Nat.reduceLeDiff, Nat.reduceAdd, Bool.not_true, Bool.not_false, T_ok, x_kMt, x_sMt, x_mtN, x_mtC, x_sWh, true_or, true_and, and_true, if_true, if_false, len_at hq, e, ix_at (h5.at hq hpq) (List.getElem?_eq_getElem hj)]
def L_two : LS := (sSeq (sSet 1 (eC (.int 1)))
  (sSeq (sFor (iR1 (eV 0)) (.nm 2)
  (sSet 1 (eB dMul (eV 1) (eC (.int 2)))))
  (sRet (eV 1))))
def IsTwo (f : Fn) : Prop := ∀ {w : Nat} {M : Mem}, w ≤ 100000 → f [.int w] M = .ok (.int (2 ^ w)) M
theorem isTwo {f : Fn} (h : ∀ d M, f [d] M = retF (L_two [some d, none, none] M)) : IsTwo f := fun {w M} hw => by
  rw [h]
  obtain ⟨L', M', e, x, hL, hM⟩ := for_T (v := .rng 0 w) (j := 2) (b := sSet 1 (eB dMul (eV 1) (eC (.int 2)))) (n := w) (L := [some (.int w), some (.int 1), none]) (M := M) (fun i L M' => ∃ x, L = [some (.int w), some (.int (2 ^ i)), x] ∧ M' = M) ⟨none, rfl, rfl⟩
    (fun i L M' hi ⟨x, hL, hM⟩ => by
      subst hL; subst hM
      refine ⟨_, rng_at hi, ?_⟩
      have q : ((2 : Int) ^ i).natAbs < 2 ^ (i + 1) := by
        rw [Int.natAbs_pow]
        exact Nat.pow_lt_pow_right (by decide) (by omega)
      simp only [bind_ok, bind_ex, outE_ok, outE_ex, retF_nx, retF_rt, retF_xc, x_optR, x_eV, x_eC, x_kB, x_eB, x_eU, x_eF, x_kM, x_eM, x_ift, x_iff, x_eIf, x_kTup, x_kLst, x_eTup, x_eLst, x_aN, x_kCc, x_kC, x_aC, x_tV, x_kCn, x_kCm, x_tCm, x_okB, x_tA, x_tO, x_kN, x_tN, x_tCh, x_kCj, x_kCi, x_kCh, x_eCh, x_kNb, x_kAn, x_kOr, x_kNo, x_eAnd, x_eOr, x_eNot, x_kCl, x_eCall, x_kS2, x_kS1, x_eSl, x_oN, x_asO, x_oS, x_mLoc, x_kML, x_eML, x_kM0, x_kMl0, x_eML0, x_truB, x_truI, x_asB, x_cnx, x_crt, x_cbk, x_cct, x_cxc, x_sSeq, x_sNil, x_sBrk, x_sCnt, x_kEx, x_kSet, x_sEx, x_sSet, x_okO, x_putsN, x_putsC, x_kPar, x_sPar, x_kRet, x_sRet, x_sRetN, x_sIf, x_kSb3, x_kSb2, x_kSb1, x_sSub, x_kAsg, x_sAsg, x_pnm, x_ptp, x_kFor, x_sFor, x_itT, x_iR1, x_kR2, x_iR2, x_iE, x_tY, x_wN, x_wC, List.getElem?_cons_zero, List.getElem?_cons_succ, List.set_cons_zero, List.set_cons_succ, List.append_nil, List.nil_append, List.cons_append, List.length_cons, List.length_nil, Nat.reduceLeDiff, Nat.reduceAdd, Bool.not_true, Bool.not_false, T_ok, x_kMt, x_sMt, x_mtN, x_mtC, x_sWh, true_or, true_and, and_true, if_true, if_false, fun M => @mul_ok (2 ^ i) 2 M (i + 1) 2 q (by decide) (by omega) (by omega) (by omega)]
      exact ⟨_, rfl⟩)
    (fun _ _ _ => rng_end)
  subst hL; subst hM
  simp only [L_two, bind_ok, bind_ex, outE_ok, outE_ex, retF_nx, retF_rt, retF_xc, x_optR, x_eV, x_eC, x_kB, x_eB, x_eU, x_eF, x_kM, x_eM, x_ift, x_iff, x_eIf, x_kTup, x_kLst, x_eTup, x_eLst, x_aN, x_kCc, x_kC, x_aC, x_tV, x_kCn, x_kCm, x_tCm, x_okB, x_tA, x_tO, x_kN, x_tN, x_tCh, x_kCj, x_kCi, x_kCh, x_eCh, x_kNb, x_kAn, x_kOr, x_kNo, x_eAnd, x_eOr, x_eNot, x_kCl, x_eCall, x_kS2, x_kS1, x_eSl, x_oN, x_asO, x_oS, x_mLoc, x_kML, x_eML, x_kM0, x_kMl0, x_eML0, x_truB, x_truI, x_asB, x_cnx, x_crt, x_cbk, x_cct, x_cxc, x_sSeq, x_sNil, x_sBrk, x_sCnt, x_kEx, x_kSet, x_sEx, x_sSet, x_okO, x_putsN, x_putsC, x_kPar, x_sPar, x_kRet, x_sRet, x_sRetN, x_sIf, x_kSb3, x_kSb2, x_kSb1, x_sSub, x_kAsg, x_sAsg, x_pnm, x_ptp, x_kFor, x_sFor, x_itT, x_iR1, x_kR2, x_iR2, x_iE, x_tY, x_wN, x_wC, List.getElem?_cons_zero, List.getElem?_cons_succ, List.set_cons_zero, List.set_cons_succ, List.append_nil, List.nil_append, List.cons_append, List.length_cons, List.length_nil, Nat.reduceLeDiff, Nat.reduceAdd, Bool.not_true, Bool.not_false, T_ok, x_kMt, x_sMt, x_mtN, x_mtC, x_sWh, true_or, true_and, and_true, if_true, if_false, x_r1 (n := w) (by omega), IV.size, e]
def L_same : LS := (sRet (eB dEq (eF bRepr (aC (eV 0) aN)) (eF bRepr (aC (eV 1) aN))))
/-- alike is what has the same text -/
theorem same_ok {f : Fn} (h : ∀ d e M, f [d, e] M = retF (L_same [some d, some e] M)) {d e : D} {s t : Str} {M : Mem} (hd : bRepr [d] M = .ok (.str s) M) (he : bRepr [e] M = .ok (.str t) M) : f [d, e] M = .ok (.bl (s == t)) M := by
  rw [h]
  simp only [L_same, bind_ok, bind_ex, outE_ok, outE_ex, retF_nx, retF_rt, retF_xc, x_optR, x_eV, x_eC, x_kB, x_eB, x_eU, x_eF, x_kM, x_eM, x_ift, x_iff, x_eIf, x_kTup, x_kLst, x_eTup, x_eLst, x_aN, x_kCc, x_kC, x_aC, x_tV, x_kCn, x_kCm, x_tCm, x_okB, x_tA, x_tO, x_kN, x_tN, x_tCh, x_kCj, x_kCi, x_kCh, x_eCh, x_kNb, x_kAn, x_kOr, x_kNo, x_eAnd, x_eOr, x_eNot, x_kCl, x_eCall, x_kS2, x_kS1, x_eSl, x_oN, x_asO, x_oS, x_mLoc, x_kML, x_eML, x_kM0, x_kMl0, x_eML0, x_truB, x_truI, x_asB, x_cnx, x_crt, x_cbk, x_cct, x_cxc, x_sSeq, x_sNil, x_sBrk, x_sCnt, x_kEx, x_kSet, x_sEx, x_sSet, x_okO, x_putsN, x_putsC, x_kPar, x_sPar, x_kRet, x_sRet, x_sRetN, x_sIf, x_kSb3, x_kSb2, x_kSb1, x_sSub, x_kAsg, x_sAsg, x_pnm, x_ptp, x_kFor, x_sFor, x_itT, x_iR1, x_kR2, x_iR2, x_iE, x_tY, x_wN, x_wC, List.getElem?_cons_zero, List.getElem?_cons_succ, List.set_cons_zero, List.set_cons_succ, List.append_nil, List.nil_append, List.cons_append, List.length_cons, List.length_nil, Nat.reduceLeDiff, Nat.reduceAdd, Bool.not_true, Bool.not_false, T_ok, x_kMt, x_sMt, x_mtN, x_mtC, x_sWh, true_or, true_and, and_true, if_true, if_false, hd, he, eq_str]
theorem pow_nat {w : Nat} : ((2 : Int) ^ w) = ((2 ^ w : Nat) : Int) := by rw [Int.natCast_pow]; rfl
def L_nums (two dr pick : Fn) : LS :=
  (sSeq (sSet 2 (eCall two [] (aC (eV 1) aN)))
  (sSeq (sSet 3 (eLst (aC (eC (.int 0)) (aC (eC (.int 1)) (aC (eB dSub (eV 2) (eC (.int 1))) (aC (eB dDiv (eV 2) (eC (.int 2))) (aC (eCall dr [] (aC (eV 0) (aC (eV 2) aN))) (aC (eCall dr [] (aC (eV 0) (aC (eV 2) aN))) (aC (eB dSub (eC (.int 0)) (eCall dr [] (aC (eV 0) (aC (eV 2) aN)))) aN)))))))))
  (sRet (eF bTuple (aC (eLc (iR1 (eC (.int 3))) (.nm 4) tY (eCall pick [] (aC (eV 0) (aC (eV 3) aN))) [4]) aN)))))
def IsNums (f : Fn) : Prop := ∀ {t p w : Nat} {M : Mem}, PenAt t p M → t + 6 < 1000000000 → w ≤ 8000 →
  ∃ (a b c : Int) (M' : Mem), f [.loc p, .int w] M = .ok (.tup [.int a, .int b, .int c]) M' ∧ a.natAbs ≤ 2 ^ w ∧ b.natAbs ≤ 2 ^ w ∧ c.natAbs ≤ 2 ^ w ∧ PenAt (t + 6) p M' ∧ Kp (N1 p) M M'
theorem isNums {f two dr pick : Fn} (h2 : IsTwo two) (hd : IsDraw dr) (hp : IsPick pick) (hf : ∀ d e M, f [d, e] M = retF (L_nums two dr pick [some d, some e, none, none, none] M)) : IsNums f := fun {t p w M} h ht hw => by
  have hp0 : (0 : Int) < 2 ^ w := Int.pow_pos (by decide)
  have hp2 : ((2 : Int) ^ w).natAbs < 2 ^ (w + 1) := by rw [Int.natAbs_pow]; exact Nat.pow_lt_pow_right (by decide) (by omega)
  obtain ⟨x, M1, e1, a1, b1, c1, d1, l1⟩ := hd (n := 2 ^ w) (w + 1) h (by omega) hp0 hp2 (by omega) (by omega)
  obtain ⟨y, M2', e2, a2, b2, c2, d2, l2⟩ := hd (n := 2 ^ w) (w + 1) c1 (by omega) hp0 hp2 (by omega) (by omega)
  obtain ⟨z, M3, e3, a3, b3, c3, d3, l3⟩ := hd (n := 2 ^ w) (w + 1) c2 (by omega) hp0 hp2 (by omega) (by omega)
  have hh : (2 ^ w : Int).fdiv 2 = ((2 ^ w : Nat) : Int) / 2 := by rw [Int.fdiv_eq_ediv_of_nonneg _ (by decide), pow_nat]
  have hpn := @pow_nat w
  let ds : List D := [.int 0, .int 1, .int (2 ^ w - 1), .int ((2 ^ w : Int).fdiv 2), .int x, .int y, .int (0 - z)]
  have hds : ∀ d ∈ ds, ∃ v : Int, d = .int v ∧ v.natAbs ≤ 2 ^ w := by
    intro d m
    simp only [ds, List.mem_cons, List.not_mem_nil, or_false] at m
    rcases m with rfl | rfl | rfl | rfl | rfl | rfl | rfl
    · exact ⟨_, rfl, Nat.zero_le _⟩
    · exact ⟨_, rfl, Nat.one_le_two_pow⟩
    · exact ⟨_, rfl, by omega⟩
    · exact ⟨_, rfl, by rw [hh]; omega⟩
    · exact ⟨_, rfl, by omega⟩
    · exact ⟨_, rfl, by omega⟩
    · exact ⟨_, rfl, by omega⟩
  have d4 : Kp (N1 p) M (M3 ++ [.lst ds]) := ((d1.trans d2).trans d3).pushn
  have hpl := h.lt
  obtain ⟨acc, M', e, ⟨g1, g2⟩, g3, g4, g5⟩ := lc_gen (S := N1 p) (it := iR1 (eC (.int 3))) (v := .rng 0 3) (ds := rngL 0 3) (j := 4) (te := eCall pick [] (aC (eV 0) (aC (eV 3) aN))) (vs := [4])
    (L := [some (.loc p), some (.int w), some (.int (2 ^ w)), some (.loc M3.length), none]) (M := M3 ++ [.lst ds]) (M0 := M3 ++ [.lst ds])
    (fun i acc M' => (∀ d ∈ acc, ∃ v : Int, d = .int v ∧ v.natAbs ≤ 2 ^ w) ∧ PenAt (t + 3 + i) p M')
    rfl Iw.rng ⟨fun d m => (nomatch m), (c3.kp (S := N0) (Kp.push _ _) id).kp (S := N0) (Kp.push _ _) id⟩ (by rw [rngL_len]; decide)
    (fun i acc M' d hd hl ⟨q1, q2⟩ kk hc => by
      have hi : i < 3 := by
        have := (List.getElem?_eq_some_iff.mp hd).1
        rw [rngL_len] at this; exact this
      have hpm : M3.length ≠ p := by omega
      obtain ⟨y, My, m, r1, r2, r3, r4⟩ := hp (t := t + 3 + i) (p := p) (q := M3.length) (M := M') (ds := ds) q2 (by omega) (kk.at (push_at _ _) hpm) hpm (by simp [ds]) (by simp [ds])
      have hm0 : (M3 ++ [O.lst ds]).length ≠ p := by simp; omega
      refine ⟨y, My, ?_, kk.trans (r3.weak fun i _ s => s), r3.at hc hm0, ?_, ?_⟩
      · simp only [bind_ok, bind_ex, outE_ok, outE_ex, retF_nx, retF_rt, retF_xc, x_optR, x_eV, x_eC, x_kB, x_eB, x_eU, x_eF, x_kM, x_eM, x_ift, x_iff, x_eIf, x_kTup, x_kLst, x_eTup, x_eLst, x_aN, x_kCc, x_kC, x_aC, x_tV, x_kCn, x_kCm, x_tCm, x_okB, x_tA, x_tO, x_kN, x_tN, x_tCh, x_kCj, x_kCi, x_kCh, x_eCh, x_kNb, x_kAn, x_kOr, x_kNo, x_eAnd, x_eOr, x_eNot, x_kCl, x_eCall, x_kS2, x_kS1, x_eSl, x_oN, x_asO, x_oS, x_mLoc, x_kML, x_eML, x_kM0, x_kMl0, x_eML0, x_truB, x_truI, x_asB, x_cnx, x_crt, x_cbk, x_cct, x_cxc, x_sSeq, x_sNil, x_sBrk, x_sCnt, x_kEx, x_kSet, x_sEx, x_sSet, x_okO, x_putsN, x_putsC, x_kPar, x_sPar, x_kRet, x_sRet, x_sRetN, x_sIf, x_kSb3, x_kSb2, x_kSb1, x_sSub, x_kAsg, x_sAsg, x_pnm, x_ptp, x_kFor, x_sFor, x_itT, x_iR1, x_kR2, x_iR2, x_iE, x_tY, x_wN, x_wC, List.getElem?_cons_zero, List.getElem?_cons_succ, List.set_cons_zero, List.set_cons_succ, List.append_nil, List.nil_append, List.cons_append, List.length_cons, List.length_nil, Nat.reduceLeDiff, Nat.reduceAdd, Bool.not_true, Bool.not_false, T_ok, x_kMt, x_sMt, x_mtN, x_mtC, x_sWh, true_or, true_and, and_true, if_true, if_false, r1]
      · intro d m'
        rcases List.mem_append.mp m' with m' | m'
        · exact q1 d m'
        · obtain rfl : d = y := by simpa using m'
          exact hds _ m
      · obtain ⟨a, b, c, u1, u2, u3, u4, u5, u6⟩ := r2
        exact ⟨a, b, c, by rw [List.getElem?_set_ne hm0]; exact u1, u2, u3, u4, u5, by omega⟩)
  rw [rngL_len] at g2 g3
  match acc, g3 with
  | [da, db, dc], _ =>
    obtain ⟨a, rfl, ha⟩ := g1 da (by simp)
    obtain ⟨b, rfl, hb⟩ := g1 db (by simp)
    obtain ⟨c, rfl, hc⟩ := g1 dc (by simp)
    refine ⟨a, b, c, M', ?_, ha, hb, hc, g2, d4.trans g5⟩
    rw [hf]
    simp only [L_nums, bind_ok, bind_ex, outE_ok, outE_ex, retF_nx, retF_rt, retF_xc, x_optR, x_eV, x_eC, x_kB, x_eB, x_eU, x_eF, x_kM, x_eM, x_ift, x_iff, x_eIf, x_kTup, x_kLst, x_eTup, x_eLst, x_aN, x_kCc, x_kC, x_aC, x_tV, x_kCn, x_kCm, x_tCm, x_okB, x_tA, x_tO, x_kN, x_tN, x_tCh, x_kCj, x_kCi, x_kCh, x_eCh, x_kNb, x_kAn, x_kOr, x_kNo, x_eAnd, x_eOr, x_eNot, x_kCl, x_eCall, x_kS2, x_kS1, x_eSl, x_oN, x_asO, x_oS, x_mLoc, x_kML, x_eML, x_kM0, x_kMl0, x_eML0, x_truB, x_truI, x_asB, x_cnx, x_crt, x_cbk, x_cct, x_cxc, x_sSeq, x_sNil, x_sBrk, x_sCnt, x_kEx, x_kSet, x_sEx, x_sSet, x_okO, x_putsN, x_putsC, x_kPar, x_sPar, x_kRet, x_sRet, x_sRetN, x_sIf, x_kSb3, x_kSb2, x_kSb1, x_sSub, x_kAsg, x_sAsg, x_pnm, x_ptp, x_kFor, x_sFor, x_itT, x_iR1, x_kR2, x_iR2, x_iE, x_tY, x_wN, x_wC, List.getElem?_cons_zero, List.getElem?_cons_succ, List.set_cons_zero, List.set_cons_succ, List.append_nil, List.nil_append, List.cons_append, List.length_cons, List.length_nil, Nat.reduceLeDiff, Nat.reduceAdd, Bool.not_true, Bool.not_false, T_ok, x_kMt, x_sMt, x_mtN, x_mtC, x_sWh, true_or, true_and, and_true, if_true, if_false, h2 (w := w) (by omega), dSub, fun M => @div_ok (2 ^ w) 2 M 2 (by omega) (by decide) (by omega) (by omega), e1, e2, e3]
    simp only [ds] at e g4
    simp only [e, bind_ok, bind_ex, outE_ok, outE_ex, retF_nx, retF_rt, retF_xc, x_optR, x_eV, x_eC, x_kB, x_eB, x_eU, x_eF, x_kM, x_eM, x_ift, x_iff, x_eIf, x_kTup, x_kLst, x_eTup, x_eLst, x_aN, x_kCc, x_kC, x_aC, x_tV, x_kCn, x_kCm, x_tCm, x_okB, x_tA, x_tO, x_kN, x_tN, x_tCh, x_kCj, x_kCi, x_kCh, x_eCh, x_kNb, x_kAn, x_kOr, x_kNo, x_eAnd, x_eOr, x_eNot, x_kCl, x_eCall, x_kS2, x_kS1, x_eSl, x_oN, x_asO, x_oS, x_mLoc, x_kML, x_eML, x_kM0, x_kMl0, x_eML0, x_truB, x_truI, x_asB, x_cnx, x_crt, x_cbk, x_cct, x_cxc, x_sSeq, x_sNil, x_sBrk, x_sCnt, x_kEx, x_kSet, x_sEx, x_sSet, x_okO, x_putsN, x_putsC, x_kPar, x_sPar, x_kRet, x_sRet, x_sRetN, x_sIf, x_kSb3, x_kSb2, x_kSb1, x_sSub, x_kAsg, x_sAsg, x_pnm, x_ptp, x_kFor, x_sFor, x_itT, x_iR1, x_kR2, x_iR2, x_iE, x_tY, x_wN, x_wC, List.getElem?_cons_zero, List.getElem?_cons_succ, List.set_cons_zero, List.set_cons_succ, List.append_nil, List.nil_append, List.cons_append, List.length_cons, List.length_nil, Nat.reduceLeDiff, Nat.reduceAdd, Bool.not_true, Bool.not_false, T_ok, x_kMt, x_sMt, x_mtN, x_mtC, x_sWh, true_or, true_and, and_true, if_true, if_false, tuple_at g4]
theorem fit_i {i : Int} {w : Nat} (h : i.natAbs ≤ 2 ^ w) (hw : w ≤ 4000) : Fit 0 4002 (.int i) := by
  have h1 : 2 ^ w ≤ 10 ^ w := Nat.pow_le_pow_left (by decide) w
  have h2 : 10 ^ w < 10 ^ 4001 := Nat.pow_lt_pow_right (by decide) (by omega)
  exact Fit.int (by decide) (by decide) (Nat.lt_of_le_of_lt h (Nat.lt_of_le_of_lt h1 h2))
/-! texts of sums -/
def FitS (k n : Nat) (ds : List D) : Prop := ∃ ps, reifs nul ds = some ps ∧ tames ps = true ∧ PyData.depthAll ps ≤ k ∧ ((PyData.shownAll ps).map (·.length)).sum ≤ n ∧ ps.length = ds.length
theorem FitS.nil {k : Nat} : FitS k 0 [] := ⟨[], rfl, rfl, Nat.zero_le _, by simp [PyData.shownAll], rfl⟩
theorem FitS.cons {k a b : Nat} {d : D} {ds : List D} (h : Fit k a d) (h' : FitS k b ds) : FitS k (a + b) (d :: ds) := by
  obtain ⟨p, x1, x2, x3, x4⟩ := h
  obtain ⟨ps, y1, y2, y3, y4, y5⟩ := h'
  refine ⟨p :: ps, ?_, ?_, ?_, ?_, ?_⟩
  · unfold reifs; rw [x1, y1]; rfl
  · simp only [tames, x2, y2, Bool.and_self]
  · simp only [PyData.depthAll]; exact Nat.max_le.mpr ⟨x3, y3⟩
  · simp only [PyData.shownAll, List.map_cons, List.sum_cons]; omega
  · simp only [List.length_cons, y5]
theorem FitS.tup {k n : Nat} {ds : List D} (h : FitS k n ds) : Fit (k + 1) (n + 2 * ds.length + 3) (.tup ds) := by
  obtain ⟨ps, a, b, c, e, l⟩ := h
  refine ⟨.tuple ps, ?_, ?_, ?_, ?_⟩
  · unfold reif; rw [a]; rfl
  · simpa only [tame] using b
  · simp only [PyData.depth]; omega
  · simp only [PyData.shown]
    have h1 := tupleText_len_le (PyData.shownAll ps)
    have h2 := PyData.shownAll_length ps
    omega
/-- the text of a list -/
theorem FitS.list {k n : Nat} {ds : List D} (h : FitS k n ds) (hk : k ≤ 50) (hn : n + 2 * ds.length + 3 ≤ big) : ∃ s, ∀ M p, M[p]? = some (O.lst ds) → bRepr [.loc p] M = .ok (.str s) M := by
  obtain ⟨ps, a, b, c, e, l⟩ := h
  refine ⟨(PyData.list ps).shown, fun M p hp => ?_⟩
  have z : tame (.list ps) = true ∧ (PyData.list ps).depth ≤ 60 ∧ (PyData.list ps).shown.length ≤ big := by
    refine ⟨by simpa only [tame] using b, by simp only [PyData.depth]; omega, ?_⟩
    simp only [PyData.shown]
    have h1 := listText_len_le (PyData.shownAll ps)
    have h2 := PyData.shownAll_length ps
    omega
  have q : pyD M (.loc p) = some (.list ps) := by
    unfold pyD reif
    show lstP (heapD (5 + 1) M p) = _
    unfold heapD
    rw [hp]
    show lstP ((reifs (heapD 5 M) ds).map PyData.list) = _
    rw [reifs_nul ds a]; rfl
  simp only [bRepr, q]
  rw [if_pos z]
theorem Fit.str {s : Str} {n : Nat} (h : (reprText s).length ≤ n) : Fit 0 n (.str s) := ⟨.str s, rfl, rfl, Nat.le_of_eq rfl, by simpa only [PyData.shown] using h⟩
end G

/-! X1: expressions: their form, parts, number of operations, worth. -/
namespace G
open PySem L2
/-! ### whiles; laid data -/
theorem wh_T {c : LT} {b : LS} (I : Nat → Env → Mem → Prop) (Q : Env → Mem → Prop)
    (h1 : ∀ m L M, I (m + 1) L M → T (c L M) fun k M1 => k = true ∧ T (b L M1) fun r M2 => (r.1 = .nx ∨ r.1 = .ct) ∧ ∃ m', m' ≤ m ∧ I m' r.2 M2)
    (h0 : ∀ L M, I 0 L M → T (c L M) fun k M1 => k = false ∧ Q L M1) : ∀ (f m : Nat) (L : Env) (M : Mem), I m L M → m < f → ∃ L' M', whL c b f L M = .ok (.nx, L') M' ∧ Q L' M'
  | 0, _, _, _, _, h => absurd h (Nat.not_lt_zero _)
  | f + 1, 0, L, M, hI, _ => by
    obtain ⟨k, M1, e, rfl, q⟩ := (h0 L M hI).get
    exact ⟨L, M1, by simp only [whL, e, outE_ok, Bool.false_eq_true, if_false], q⟩
  | f + 1, m + 1, L, M, hI, hf => by
    obtain ⟨k, M1, e, rfl, t⟩ := (h1 m L M hI).get
    obtain ⟨⟨fl, L2⟩, M2, e2, h2, m', hm', hI'⟩ := t.get
    obtain ⟨L', M', e3, q⟩ := wh_T I Q h1 h0 f m' L2 M2 hI' (by omega)
    refine ⟨L', M', ?_, q⟩
    simp only [whL, e, outE_ok, if_true, e2, bind_ok]
    rcases h2 with h2 | h2 <;> (simp only at h2; subst h2; exact e3)
def Lay (k : Nat) (d : D) : Prop := ∃ p, reif nul d = some p ∧ p.canLay0 = true ∧ p.depth ≤ k
def Lays (k : Nat) (ds : List D) : Prop := ∃ ps, reifs nul ds = some ps ∧ PyData.canLayAll0 ps = true ∧ PyData.depthAll ps ≤ k ∧ ps.length = ds.length
theorem Lay.mono {k n : Nat} {d : D} (h : Lay k d) (l : k ≤ n) : Lay n d := let ⟨p, a, b, c⟩ := h; ⟨p, a, b, Nat.le_trans c l⟩
theorem Lay.int {i : Int} : Lay 0 (.int i) := ⟨.int i, rfl, rfl, Nat.le_of_eq rfl⟩
theorem Lay.bl {i : Bool} : Lay 0 (.bl i) := ⟨.bool i, rfl, rfl, Nat.le_of_eq rfl⟩
theorem Lay.non : Lay 0 .non := ⟨.none, rfl, rfl, Nat.le_of_eq rfl⟩
theorem Lay.str {s : Str} (h : PyData.strOk s = true) : Lay 0 (.str s) := ⟨.str s, rfl, by simpa only [PyData.canLay0] using h, Nat.le_of_eq rfl⟩
theorem Lays.nil {k : Nat} : Lays k [] := ⟨[], rfl, rfl, Nat.zero_le _, rfl⟩
theorem Lays.cons {k : Nat} {d : D} {ds : List D} (h : Lay k d) (h' : Lays k ds) : Lays k (d :: ds) := by
  obtain ⟨p, x1, x2, x3⟩ := h
  obtain ⟨ps, y1, y2, y3, y4⟩ := h'
  refine ⟨p :: ps, ?_, ?_, ?_, ?_⟩
  · unfold reifs; rw [x1, y1]; rfl
  · simp only [PyData.canLayAll0, x2, y2, Bool.and_self]
  · simp only [PyData.depthAll]; exact Nat.max_le.mpr ⟨x3, y3⟩
  · simp only [List.length_cons, y4]
theorem Lays.of {k : Nat} : ∀ {ds : List D}, (∀ d ∈ ds, Lay k d) → Lays k ds
  | [], _ => Lays.nil
  | d :: ds, h => (h d (by simp)).elim fun p hp => Lays.cons ⟨p, hp⟩ (Lays.of fun x m => h x (List.mem_cons_of_mem _ m))
theorem Lays.tup {k : Nat} {ds : List D} (h : Lays k ds) : Lay (k + 1) (.tup ds) := by
  obtain ⟨ps, a, b, c, l⟩ := h
  refine ⟨.tuple ps, ?_, by simpa only [PyData.canLay0] using b, by simp only [PyData.depth]; omega⟩
  unfold reif; rw [a]; rfl
theorem eqv_nil {ps : List PyData} : PyData.eqvAll ps [] = ps.isEmpty := by
  cases ps with
  | nil => rfl
  | cons a b => simp only [PyData.eqvAll, List.isEmpty_cons]
theorem empty_len {α β : Type} {a : List α} {b : List β} (h : a.length = b.length) : a.isEmpty = b.isEmpty := by
  cases a <;> cases b <;> simp_all
theorem tup_nil {k : Nat} {ds : List D} (h : Lays k ds) (hk : k ≤ 60) {M : Mem} : dNe (.tup ds) (.tup []) M = .ok (.bl (!ds.isEmpty)) M ∧ dEq (.tup ds) (.tup []) M = .ok (.bl ds.isEmpty) M := by
  obtain ⟨ps, a, b, c, l⟩ := h
  have h1 : reif nul (.tup ds) = some (.tuple ps) := by unfold reif; rw [a]; rfl
  have h2 : reif nul (.tup []) = some (.tuple []) := by unfold reif; unfold reifs; rfl
  have s1 : SeqAt.shaped (.tuple ps) = true := by
    unfold SeqAt.shaped
    rw [Bool.and_eq_true, decide_eq_true_eq]
    exact ⟨by simpa only [PyData.canLay0] using b, by simp only [PyData.depth]; omega⟩
  refine ⟨?_, ?_⟩
  · rw [ne_of rfl h1 h2 s1 rfl]
    simp only [PyData.eqv, eqv_nil, empty_len l]
  · rw [eq_of rfl h1 h2 s1 rfl]
    simp only [PyData.eqv, eqv_nil, empty_len l]
theorem loc_data {k : Nat} {ds : List D} {ps : List PyData} {M : Mem} {p : Nat} (a : reifs nul ds = some ps) (h : M[p]? = some (.lst ds)) : pyD M (.loc p) = some (.list ps) := by
  unfold pyD reif
  show lstP (heapD (5 + 1) M p) = _
  unfold heapD
  rw [h]
  show lstP ((reifs (heapD 5 M) ds).map PyData.list) = _
  rw [reifs_nul ds a]; rfl
theorem lst_nil {k : Nat} {ds : List D} (h : Lays k ds) (hk : k ≤ 60) {M : Mem} {p z : Nat} (hp : M[p]? = some (.lst ds)) (hz : M[z]? = some (.lst [])) : dNe (.loc p) (.loc z) M = .ok (.bl (!ds.isEmpty)) M ∧ dEq (.loc p) (.loc z) M = .ok (.bl ds.isEmpty) M := by
  obtain ⟨ps, a, b, c, l⟩ := h
  have h1 := loc_data (k := k) a hp
  have h2 := loc_data (k := k) (ds := []) (ps := []) rfl hz
  have s1 : SeqAt.shaped (.list ps) = true := by
    unfold SeqAt.shaped
    rw [Bool.and_eq_true, decide_eq_true_eq]
    exact ⟨by simpa only [PyData.canLay0] using b, by simp only [PyData.depth]; omega⟩
  have s2 : SeqAt.shaped (.list []) = true := rfl
  refine ⟨?_, ?_⟩
  · simp only [dNe, strsD, h1, h2, s1, s2, and_self, if_true, PyData.eqv, eqv_nil, empty_len l]
  · simp only [dEq, strsD, h1, h2, s1, s2, and_self, if_true, PyData.eqv, eqv_nil, empty_len l]
/-! ### the form -/
inductive Op where
  | and | or | xor | plus | minus
def Op.word : Op → Str
  | .and => "and" | .or => "or" | .xor => "xor" | .plus => "plus" | .minus => "minus"
inductive Ex where
  | var (i : Nat) | num (n : Int) | not (a : Ex) | bin (o : Op) (a b : Ex) | shift (a : Ex) (k : Nat) | times (n : Int) (a : Ex)
def Ex.enc : Ex → D
  | .var i => .tup [.str "var", .int (i : Nat)]
  | .num n => .tup [.str "number", .int n]
  | .not a => .tup [.str "not", a.enc]
  | .bin o a b => .tup [.str o.word, a.enc, b.enc]
  | .shift a k => .tup [.str "shift", a.enc, .int (k : Nat)]
  | .times n a => .tup [.str "times", .int n, a.enc]
def Ex.ok : Ex → Prop
  | .var i => i < 3
  | .num n => -1000 ≤ n ∧ n ≤ 1000
  | .not a => a.ok
  | .bin _ a b => a.ok ∧ b.ok
  | .shift a k => a.ok ∧ 1 ≤ k ∧ k ≤ 4
  | .times n a => (-9 ≤ n ∧ n ≤ 9) ∧ a.ok
def Ex.ops : Ex → Nat
  | .var _ => 0
  | .num _ => 0
  | .not a => a.ops + 1
  | .bin _ a b => a.ops + b.ops + 1
  | .shift a _ => a.ops + 1
  | .times _ a => a.ops + 1
def Ex.kids : Ex → List Ex
  | .var _ => []
  | .num _ => []
  | .not a => [a]
  | .bin _ a b => [a, b]
  | .shift a _ => [a]
  | .times _ a => [a]
def Ex.nodes : Ex → Nat
  | .var _ => 1
  | .num _ => 1
  | .not a => a.nodes + 1
  | .bin _ a b => a.nodes + b.nodes + 1
  | .shift a _ => a.nodes + 1
  | .times _ a => a.nodes + 1
theorem Ex.nodes_pos (e : Ex) : 0 < e.nodes := by cases e <;> simp only [Ex.nodes] <;> omega
theorem Ex.nodes_ops (e : Ex) : e.nodes ≤ 2 * e.ops + 1 := by
  induction e <;> simp only [Ex.nodes, Ex.ops] <;> omega
theorem Ex.lay (e : Ex) : Lay (e.ops + 1) e.enc := by
  have s (o : Op) : PyData.strOk o.word = true := by cases o <;> decide +kernel
  induction e with
  | var i => exact (Lays.cons (Lay.str (by decide +kernel)) (Lays.cons Lay.int Lays.nil)).tup
  | num i => exact (Lays.cons (Lay.str (by decide +kernel)) (Lays.cons Lay.int Lays.nil)).tup
  | not a ih => exact (Lays.cons ((Lay.str (by decide +kernel)).mono (Nat.zero_le _)) (Lays.cons ih Lays.nil)).tup
  | bin o a b iha ihb => exact (Lays.cons ((Lay.str (s o)).mono (Nat.zero_le _)) (Lays.cons (iha.mono (by simp only [Ex.ops]; omega)) (Lays.cons (ihb.mono (by simp only [Ex.ops]; omega)) Lays.nil))).tup
  | shift a k ih => exact (Lays.cons ((Lay.str (by decide +kernel)).mono (Nat.zero_le _)) (Lays.cons ih (Lays.cons (Lay.int.mono (Nat.zero_le _)) Lays.nil))).tup
  | times n a ih => exact (Lays.cons ((Lay.str (by decide +kernel)).mono (Nat.zero_le _)) (Lays.cons (Lay.int.mono (Nat.zero_le _)) (Lays.cons ih Lays.nil))).tup
theorem Ex.fit (e : Ex) (h : e.ok) : Fit (e.ops + 1) (40 * e.nodes) e.enc := by
  have s (o : Op) : (reprText o.word).length ≤ 10 := by cases o <;> decide +kernel
  have i3 (i : Nat) (h : i < 3) : Fit 0 4 (.int (i : Nat)) := Fit.int (n := 3) (by decide) (by decide) (by omega)
  induction e with
  | var i => exact (FitS.cons (Fit.str (n := 10) (by decide +kernel)) (FitS.cons (i3 i h) FitS.nil)).tup.mono (Nat.le_refl _) (by simp only [Ex.nodes, List.length_cons, List.length_nil]; omega)
  | num n => exact (FitS.cons (Fit.str (n := 10) (by decide +kernel)) (FitS.cons (Fit.int (n := 4) (by decide) (by decide) (by have := h.1; have := h.2; omega)) FitS.nil)).tup.mono (Nat.le_refl _) (by simp only [Ex.nodes, List.length_cons, List.length_nil]; omega)
  | not a ih => exact (FitS.cons ((Fit.str (n := 10) (by decide +kernel)).mono (Nat.zero_le _) (Nat.le_refl _)) (FitS.cons (ih h) FitS.nil)).tup.mono (Nat.le_refl _) (by simp only [Ex.nodes, List.length_cons, List.length_nil]; omega)
  | bin o a b iha ihb => exact (FitS.cons ((Fit.str (s o)).mono (Nat.zero_le _) (Nat.le_refl _)) (FitS.cons ((iha h.1).mono (by simp only [Ex.ops]; omega) (Nat.le_refl _)) (FitS.cons ((ihb h.2).mono (by simp only [Ex.ops]; omega) (Nat.le_refl _)) FitS.nil))).tup.mono (Nat.le_refl _) (by simp only [Ex.nodes, List.length_cons, List.length_nil]; omega)
  | shift a k ih => exact (FitS.cons ((Fit.str (n := 10) (by decide +kernel)).mono (Nat.zero_le _) (Nat.le_refl _)) (FitS.cons (ih h.1) (FitS.cons ((Fit.int (n := 3) (by decide) (by decide) (by have := h.2; omega)).mono (Nat.zero_le _) (Nat.le_refl _)) FitS.nil))).tup.mono (Nat.le_refl _) (by simp only [Ex.nodes, List.length_cons, List.length_nil]; omega)
  | times n a ih => exact (FitS.cons ((Fit.str (n := 10) (by decide +kernel)).mono (Nat.zero_le _) (Nat.le_refl _)) (FitS.cons ((Fit.int (n := 3) (by decide) (by decide) (by have := h.1; omega)).mono (Nat.zero_le _) (Nat.le_refl _)) (FitS.cons (ih h.2) FitS.nil))).tup.mono (Nat.le_refl _) (by simp only [Ex.nodes, List.length_cons, List.length_nil]; omega)
/-! ### its parts -/
abbrev k_LEAVES : D := .tup [.str "var", .str "number"]
abbrev k_PAIRED : D := .tup [.str "and", .str "or", .str "xor", .str "plus", .str "minus"]
def IsBtw (f : Fn) : Prop := ∀ {i lo hi : Int} {M : Mem}, f [.int i, .int lo, .int hi] M = .ok (.bl (decide (lo ≤ i) && decide (i ≤ hi))) M
def L_isint : LS := (sRet ((eAnd (eF (bIsi "int") (aC (eV 0) aN)) (eNot (eF (bIsi "bool") (aC (eV 0) aN))))))
def L_isbtw (ii : Fn) : LS := (sRet ((eAnd (eCall ii [] (aC (eV 0) aN)) (eCh (dCmpI fun i j => decide (i ≤ j)) (dCmpI fun i j => decide (i ≤ j)) (eV 1) (eV 0) (eV 2)))))
def IsInt (f : Fn) : Prop := ∀ {i : Int} {M : Mem}, f [.int i] M = .ok (.bl true) M
theorem isInt {f : Fn} (h : ∀ d M, f [d] M = retF (L_isint [some d] M)) : IsInt f := fun {i M} => by
  rw [h]; simp only [L_isint, bind_ok, bind_ex, outE_ok, outE_ex, retF_nx, retF_rt, retF_xc, x_optR, x_eV, x_eC, x_kB, x_eB, x_eU, x_eF, x_kM, x_eM, x_ift, x_iff, x_eIf, x_kTup, x_kLst, x_eTup, x_eLst, x_aN, x_kCc, x_kC, x_aC, x_tV, x_kCn, x_kCm, x_tCm, x_okB, x_tA, x_tO, x_kN, x_tN, x_tCh, x_kCj, x_kCi, x_kCh, x_eCh, x_kNb, x_kAn, x_kOr, x_kNo, x_eAnd, x_eOr, x_eNot, x_kCl, x_eCall, x_kS2, x_kS1, x_eSl, x_oN, x_asO, x_oS, x_mLoc, x_kML, x_eML, x_kM0, x_kMl0, x_eML0, x_truB, x_truI, x_asB, x_cnx, x_crt, x_cbk, x_cct, x_cxc, x_sSeq, x_sNil, x_sBrk, x_sCnt, x_kEx, x_kSet, x_sEx, x_sSet, x_okO, x_putsN, x_putsC, x_kPar, x_sPar, x_kRet, x_sRet, x_sRetN, x_sIf, x_kSb3, x_kSb2, x_kSb1, x_sSub, x_kAsg, x_sAsg, x_pnm, x_ptp, x_kFor, x_sFor, x_itT, x_iR1, x_kR2, x_iR2, x_iE, x_tY, x_wN, x_wC, List.getElem?_cons_zero, List.getElem?_cons_succ, List.set_cons_zero, List.set_cons_succ, List.append_nil, List.nil_append, List.cons_append, List.length_cons, List.length_nil, Nat.reduceLeDiff, Nat.reduceAdd, Bool.not_true, Bool.not_false, T_ok, x_kMt, x_sMt, x_mtN, x_mtC, x_sWh, true_or, true_and, and_true, if_true, if_false, isi_ii, isi_bi]
theorem isBtw {f ii : Fn} (hi : IsInt ii) (h : ∀ d e g M, f [d, e, g] M = retF (L_isbtw ii [some d, some e, some g] M)) : IsBtw f := fun {i lo hi' M} => by
  rw [h]
  by_cases q : lo ≤ i
  · simp only [L_isbtw, bind_ok, bind_ex, outE_ok, outE_ex, retF_nx, retF_rt, retF_xc, x_optR, x_eV, x_eC, x_kB, x_eB, x_eU, x_eF, x_kM, x_eM, x_ift, x_iff, x_eIf, x_kTup, x_kLst, x_eTup, x_eLst, x_aN, x_kCc, x_kC, x_aC, x_tV, x_kCn, x_kCm, x_tCm, x_okB, x_tA, x_tO, x_kN, x_tN, x_tCh, x_kCj, x_kCi, x_kCh, x_eCh, x_kNb, x_kAn, x_kOr, x_kNo, x_eAnd, x_eOr, x_eNot, x_kCl, x_eCall, x_kS2, x_kS1, x_eSl, x_oN, x_asO, x_oS, x_mLoc, x_kML, x_eML, x_kM0, x_kMl0, x_eML0, x_truB, x_truI, x_asB, x_cnx, x_crt, x_cbk, x_cct, x_cxc, x_sSeq, x_sNil, x_sBrk, x_sCnt, x_kEx, x_kSet, x_sEx, x_sSet, x_okO, x_putsN, x_putsC, x_kPar, x_sPar, x_kRet, x_sRet, x_sRetN, x_sIf, x_kSb3, x_kSb2, x_kSb1, x_sSub, x_kAsg, x_sAsg, x_pnm, x_ptp, x_kFor, x_sFor, x_itT, x_iR1, x_kR2, x_iR2, x_iE, x_tY, x_wN, x_wC, List.getElem?_cons_zero, List.getElem?_cons_succ, List.set_cons_zero, List.set_cons_succ, List.append_nil, List.nil_append, List.cons_append, List.length_cons, List.length_nil, Nat.reduceLeDiff, Nat.reduceAdd, Bool.not_true, Bool.not_false, T_ok, x_kMt, x_sMt, x_mtN, x_mtC, x_sWh, true_or, true_and, and_true, if_true, if_false, hi (i := i), dCmpI, q, decide_true, Bool.true_and]
  · simp only [L_isbtw, bind_ok, bind_ex, outE_ok, outE_ex, retF_nx, retF_rt, retF_xc, x_optR, x_eV, x_eC, x_kB, x_eB, x_eU, x_eF, x_kM, x_eM, x_ift, x_iff, x_eIf, x_kTup, x_kLst, x_eTup, x_eLst, x_aN, x_kCc, x_kC, x_aC, x_tV, x_kCn, x_kCm, x_tCm, x_okB, x_tA, x_tO, x_kN, x_tN, x_tCh, x_kCj, x_kCi, x_kCh, x_eCh, x_kNb, x_kAn, x_kOr, x_kNo, x_eAnd, x_eOr, x_eNot, x_kCl, x_eCall, x_kS2, x_kS1, x_eSl, x_oN, x_asO, x_oS, x_mLoc, x_kML, x_eML, x_kM0, x_kMl0, x_eML0, x_truB, x_truI, x_asB, x_cnx, x_crt, x_cbk, x_cct, x_cxc, x_sSeq, x_sNil, x_sBrk, x_sCnt, x_kEx, x_kSet, x_sEx, x_sSet, x_okO, x_putsN, x_putsC, x_kPar, x_sPar, x_kRet, x_sRet, x_sRetN, x_sIf, x_kSb3, x_kSb2, x_kSb1, x_sSub, x_kAsg, x_sAsg, x_pnm, x_ptp, x_kFor, x_sFor, x_itT, x_iR1, x_kR2, x_iR2, x_iE, x_tY, x_wN, x_wC, List.getElem?_cons_zero, List.getElem?_cons_succ, List.set_cons_zero, List.set_cons_succ, List.append_nil, List.nil_append, List.cons_append, List.length_cons, List.length_nil, Nat.reduceLeDiff, Nat.reduceAdd, Bool.not_true, Bool.not_false, T_ok, x_kMt, x_sMt, x_mtN, x_mtC, x_sWh, true_or, true_and, and_true, if_true, if_false, hi (i := i), dCmpI, q, decide_false, Bool.false_and]
def L_parts (isb : Fn) : LS :=
  (sSeq (sIf ((tO (tN (tV (eF (bIsi "tuple") (aC (eV 0) aN)))) (tO (tCm (dIn true) (eF bLen (aC (eV 0) aN)) (eTup (aC (eC (.int 2)) (aC (eC (.int 3)) aN)))) (tN (tV (eF (bIsi "str") (aC (eB dIx (eV 0) (eC (.int 0))) aN)))))))
  (sRet (eC .non))
  sNil)
  (sSeq (sPar [1, 2] (aC (eB dIx (eV 0) (eC (.int 0))) (aC (eSl (eV 0) (oS (eC (.int 1))) oN) aN)))
  (sSeq (sIf ((tA (tCm (dIn false) (eV 1) (eC k_LEAVES)) (tCm dEq (eF bLen (aC (eV 2) aN)) (eC (.int 1)))))
  (sSeq (sSet 3 (eIf (tCm dEq (eV 1) (eC (.str "var"))) (eTup (aC (eC (.int 0)) (aC (eB dSub (eC (.int 3)) (eC (.int 1))) aN))) (eTup (aC (eB dSub (eC (.int 0)) (eC (.int 1000))) (aC (eC (.int 1000)) aN)))))
  (sRet (eIf (tV (eCall isb [] (aC (eB dIx (eV 2) (eC (.int 0))) (aC (eB dIx (eV 3) (eC (.int 0))) (aC (eB dIx (eV 3) (eC (.int 1))) aN))))) (eTup aN) (eC .non))))
  sNil)
  (sSeq (sIf ((tO ((tA (tCm dEq (eV 1) (eC (.str "not"))) (tCm dEq (eF bLen (aC (eV 2) aN)) (eC (.int 1))))) ((tA (tCm (dIn false) (eV 1) (eC k_PAIRED)) (tCm dEq (eF bLen (aC (eV 2) aN)) (eC (.int 2)))))))
  (sRet (eV 2))
  sNil)
  (sSeq (sIf ((tA (tCm dEq (eV 1) (eC (.str "shift"))) (tA (tCm dEq (eF bLen (aC (eV 2) aN)) (eC (.int 2))) (tV (eCall isb [] (aC (eB dIx (eV 2) (eC (.int 1))) (aC (eC (.int 1)) (aC (eC (.int 4)) aN))))))))
  (sRet (eSl (eV 2) oN (oS (eC (.int 1)))))
  sNil)
  (sSeq (sIf ((tA (tCm dEq (eV 1) (eC (.str "times"))) (tA (tCm dEq (eF bLen (aC (eV 2) aN)) (eC (.int 2))) (tV (eCall isb [] (aC (eB dIx (eV 2) (eC (.int 0))) (aC (eB dSub (eC (.int 0)) (eC (.int 9))) (aC (eC (.int 9)) aN))))))))
  (sRet (eSl (eV 2) (oS (eC (.int 1))) oN))
  sNil)
  (sRet (eC .non))))))))
theorem len2 {a b : D} {M : Mem} : bLen [.tup [a, b]] M = .ok (.int 2) M := rfl
theorem len3 {a b c : D} {M : Mem} : bLen [.tup [a, b, c]] M = .ok (.int 3) M := rfl
theorem len1 {a : D} {M : Mem} : bLen [.tup [a]] M = .ok (.int 1) M := rfl
theorem nin2 {M : Mem} : dIn true (.int 2) (.tup [.int 2, .int 3]) M = .ok (.bl false) M := rfl
theorem nin3 {M : Mem} : dIn true (.int 3) (.tup [.int 2, .int 3]) M = .ok (.bl false) M := rfl
theorem ixa {a : D} {r : List D} {M : Mem} : dIx (.tup (a :: r)) (.int 0) M = .ok a M := ix_tup (i := 0) rfl
theorem ixb {a b : D} {r : List D} {M : Mem} : dIx (.tup (a :: b :: r)) (.int 1) M = .ok b M := ix_tup (i := 1) rfl
theorem ixc {a b c : D} {r : List D} {M : Mem} : dIx (.tup (a :: b :: c :: r)) (.int 2) M = .ok c M := ix_tup (i := 2) rfl
theorem isi_ss {s : Str} {M : Mem} : bIsi "str" [.str s] M = .ok (.bl true) M := rfl
theorem sl2 {a b : D} {M : Mem} : dSl (.tup [a, b]) (some 1) none M = .ok (.tup [b]) M := rfl
theorem sl3 {a b c : D} {M : Mem} : dSl (.tup [a, b, c]) (some 1) none M = .ok (.tup [b, c]) M := rfl
theorem slh {a b : D} {M : Mem} : dSl (.tup [a, b]) none (some 1) M = .ok (.tup [a]) M := rfl
def IsParts (f : Fn) : Prop := ∀ {e : Ex} {M : Mem}, e.ok → f [e.enc] M = .ok (.tup (e.kids.map Ex.enc)) M
theorem isParts {f isb : Fn} (hb : IsBtw isb) (h : ∀ d M, f [d] M = retF (L_parts isb [some d, none, none, none] M)) : IsParts f := fun {e M} ho => by
  rw [h]
  have i0 (s t : Str) (b : Bool) (q : (s == t) = b) : ∀ M, dEq (.str s) (.str t) M = .ok (.bl b) M := fun M => by rw [eq_str, q]
  have n11 : ∀ M, dEq (.int 1) (.int 1) M = .ok (.bl true) M := fun _ => rfl
  have n22 : ∀ M, dEq (.int 2) (.int 2) M = .ok (.bl true) M := fun _ => rfl
  cases e with
  | var i =>
    have l1 : ∀ M, dIn false (.str "var") k_LEAVES M = .ok (.bl true) M := fun _ => rfl
    have z : (decide ((0 : Int) ≤ (i : Nat)) && decide (((i : Nat) : Int) ≤ 3 - 1)) = true := by
      have : i < 3 := ho
      rw [Bool.and_eq_true, decide_eq_true_eq, decide_eq_true_eq]; omega
    simp only [L_parts, Ex.enc, Ex.kids, List.map_nil, bind_ok, bind_ex, outE_ok, outE_ex, retF_nx, retF_rt, retF_xc, x_optR, x_eV, x_eC, x_kB, x_eB, x_eU, x_eF, x_kM, x_eM, x_ift, x_iff, x_eIf, x_kTup, x_kLst, x_eTup, x_eLst, x_aN, x_kCc, x_kC, x_aC, x_tV, x_kCn, x_kCm, x_tCm, x_okB, x_tA, x_tO, x_kN, x_tN, x_tCh, x_kCj, x_kCi, x_kCh, x_eCh, x_kNb, x_kAn, x_kOr, x_kNo, x_eAnd, x_eOr, x_eNot, x_kCl, x_eCall, x_kS2, x_kS1, x_eSl, x_oN, x_asO, x_oS, x_mLoc, x_kML, x_eML, x_kM0, x_kMl0, x_eML0, x_truB, x_truI, x_asB, x_cnx, x_crt, x_cbk, x_cct, x_cxc, x_sSeq, x_sNil, x_sBrk, x_sCnt, x_kEx, x_kSet, x_sEx, x_sSet, x_okO, x_putsN, x_putsC, x_kPar, x_sPar, x_kRet, x_sRet, x_sRetN, x_sIf, x_kSb3, x_kSb2, x_kSb1, x_sSub, x_kAsg, x_sAsg, x_pnm, x_ptp, x_kFor, x_sFor, x_itT, x_iR1, x_kR2, x_iR2, x_iE, x_tY, x_wN, x_wC, List.getElem?_cons_zero, List.getElem?_cons_succ, List.set_cons_zero, List.set_cons_succ, List.append_nil, List.nil_append, List.cons_append, List.length_cons, List.length_nil, Nat.reduceLeDiff, Nat.reduceAdd, Bool.not_true, Bool.not_false, T_ok, x_kMt, x_sMt, x_mtN, x_mtC, x_sWh, true_or, true_and, and_true, if_true, if_false, isi_tt, len2, nin2, ixa, isi_ss, sl2, l1, len1, n11, i0 "var" "var" true rfl, dSub, ixb, hb (M := M), z]
  | num n =>
    have l1 : ∀ M, dIn false (.str "number") k_LEAVES M = .ok (.bl true) M := fun _ => rfl
    have z : (decide ((0 : Int) - 1000 ≤ n) && decide (n ≤ 1000)) = true := by
      have := ho.1; have := ho.2
      rw [Bool.and_eq_true, decide_eq_true_eq, decide_eq_true_eq]; omega
    simp only [L_parts, Ex.enc, Ex.kids, List.map_nil, bind_ok, bind_ex, outE_ok, outE_ex, retF_nx, retF_rt, retF_xc, x_optR, x_eV, x_eC, x_kB, x_eB, x_eU, x_eF, x_kM, x_eM, x_ift, x_iff, x_eIf, x_kTup, x_kLst, x_eTup, x_eLst, x_aN, x_kCc, x_kC, x_aC, x_tV, x_kCn, x_kCm, x_tCm, x_okB, x_tA, x_tO, x_kN, x_tN, x_tCh, x_kCj, x_kCi, x_kCh, x_eCh, x_kNb, x_kAn, x_kOr, x_kNo, x_eAnd, x_eOr, x_eNot, x_kCl, x_eCall, x_kS2, x_kS1, x_eSl, x_oN, x_asO, x_oS, x_mLoc, x_kML, x_eML, x_kM0, x_kMl0, x_eML0, x_truB, x_truI, x_asB, x_cnx, x_crt, x_cbk, x_cct, x_cxc, x_sSeq, x_sNil, x_sBrk, x_sCnt, x_kEx, x_kSet, x_sEx, x_sSet, x_okO, x_putsN, x_putsC, x_kPar, x_sPar, x_kRet, x_sRet, x_sRetN, x_sIf, x_kSb3, x_kSb2, x_kSb1, x_sSub, x_kAsg, x_sAsg, x_pnm, x_ptp, x_kFor, x_sFor, x_itT, x_iR1, x_kR2, x_iR2, x_iE, x_tY, x_wN, x_wC, List.getElem?_cons_zero, List.getElem?_cons_succ, List.set_cons_zero, List.set_cons_succ, List.append_nil, List.nil_append, List.cons_append, List.length_cons, List.length_nil, Nat.reduceLeDiff, Nat.reduceAdd, Bool.not_true, Bool.not_false, T_ok, x_kMt, x_sMt, x_mtN, x_mtC, x_sWh, true_or, true_and, and_true, if_true, if_false, isi_tt, len2, nin2, ixa, isi_ss, sl2, l1, len1, n11, i0 "number" "var" false rfl, dSub, ixb, hb (M := M), z]
  | not a =>
    have l1 : ∀ M, dIn false (.str "not") k_LEAVES M = .ok (.bl false) M := fun _ => rfl
    simp only [L_parts, Ex.enc, Ex.kids, List.map_nil, List.map_cons, bind_ok, bind_ex, outE_ok, outE_ex, retF_nx, retF_rt, retF_xc, x_optR, x_eV, x_eC, x_kB, x_eB, x_eU, x_eF, x_kM, x_eM, x_ift, x_iff, x_eIf, x_kTup, x_kLst, x_eTup, x_eLst, x_aN, x_kCc, x_kC, x_aC, x_tV, x_kCn, x_kCm, x_tCm, x_okB, x_tA, x_tO, x_kN, x_tN, x_tCh, x_kCj, x_kCi, x_kCh, x_eCh, x_kNb, x_kAn, x_kOr, x_kNo, x_eAnd, x_eOr, x_eNot, x_kCl, x_eCall, x_kS2, x_kS1, x_eSl, x_oN, x_asO, x_oS, x_mLoc, x_kML, x_eML, x_kM0, x_kMl0, x_eML0, x_truB, x_truI, x_asB, x_cnx, x_crt, x_cbk, x_cct, x_cxc, x_sSeq, x_sNil, x_sBrk, x_sCnt, x_kEx, x_kSet, x_sEx, x_sSet, x_okO, x_putsN, x_putsC, x_kPar, x_sPar, x_kRet, x_sRet, x_sRetN, x_sIf, x_kSb3, x_kSb2, x_kSb1, x_sSub, x_kAsg, x_sAsg, x_pnm, x_ptp, x_kFor, x_sFor, x_itT, x_iR1, x_kR2, x_iR2, x_iE, x_tY, x_wN, x_wC, List.getElem?_cons_zero, List.getElem?_cons_succ, List.set_cons_zero, List.set_cons_succ, List.append_nil, List.nil_append, List.cons_append, List.length_cons, List.length_nil, Nat.reduceLeDiff, Nat.reduceAdd, Bool.not_true, Bool.not_false, T_ok, x_kMt, x_sMt, x_mtN, x_mtC, x_sWh, true_or, true_and, and_true, if_true, if_false, isi_tt, len2, nin2, ixa, isi_ss, sl2, l1, len1, n11, i0 "not" "not" true rfl]
  | bin o a b =>
    have l1 : ∀ M, dIn false (.str o.word) k_LEAVES M = .ok (.bl false) M := fun _ => by cases o <;> rfl
    have l2 : ∀ M, dIn false (.str o.word) k_PAIRED M = .ok (.bl true) M := fun _ => by cases o <;> rfl
    have l3 : ∀ M, dEq (.str o.word) (.str "not") M = .ok (.bl false) M := fun _ => by cases o <;> rfl
    simp only [L_parts, Ex.enc, Ex.kids, List.map_nil, List.map_cons, bind_ok, bind_ex, outE_ok, outE_ex, retF_nx, retF_rt, retF_xc, x_optR, x_eV, x_eC, x_kB, x_eB, x_eU, x_eF, x_kM, x_eM, x_ift, x_iff, x_eIf, x_kTup, x_kLst, x_eTup, x_eLst, x_aN, x_kCc, x_kC, x_aC, x_tV, x_kCn, x_kCm, x_tCm, x_okB, x_tA, x_tO, x_kN, x_tN, x_tCh, x_kCj, x_kCi, x_kCh, x_eCh, x_kNb, x_kAn, x_kOr, x_kNo, x_eAnd, x_eOr, x_eNot, x_kCl, x_eCall, x_kS2, x_kS1, x_eSl, x_oN, x_asO, x_oS, x_mLoc, x_kML, x_eML, x_kM0, x_kMl0, x_eML0, x_truB, x_truI, x_asB, x_cnx, x_crt, x_cbk, x_cct, x_cxc, x_sSeq, x_sNil, x_sBrk, x_sCnt, x_kEx, x_kSet, x_sEx, x_sSet, x_okO, x_putsN, x_putsC, x_kPar, x_sPar, x_kRet, x_sRet, x_sRetN, x_sIf, x_kSb3, x_kSb2, x_kSb1, x_sSub, x_kAsg, x_sAsg, x_pnm, x_ptp, x_kFor, x_sFor, x_itT, x_iR1, x_kR2, x_iR2, x_iE, x_tY, x_wN, x_wC, List.getElem?_cons_zero, List.getElem?_cons_succ, List.set_cons_zero, List.set_cons_succ, List.append_nil, List.nil_append, List.cons_append, List.length_cons, List.length_nil, Nat.reduceLeDiff, Nat.reduceAdd, Bool.not_true, Bool.not_false, T_ok, x_kMt, x_sMt, x_mtN, x_mtC, x_sWh, true_or, true_and, and_true, if_true, if_false, isi_tt, len3, nin3, ixa, isi_ss, sl3, l1, len2, n22, l2, l3]
  | shift a k =>
    have l1 : ∀ M, dIn false (.str "shift") k_LEAVES M = .ok (.bl false) M := fun _ => rfl
    have l2 : ∀ M, dIn false (.str "shift") k_PAIRED M = .ok (.bl false) M := fun _ => rfl
    have z : (decide ((1 : Int) ≤ (k : Nat)) && decide (((k : Nat) : Int) ≤ 4)) = true := by
      have := ho.2
      rw [Bool.and_eq_true, decide_eq_true_eq, decide_eq_true_eq]; omega
    simp only [L_parts, Ex.enc, Ex.kids, List.map_nil, List.map_cons, bind_ok, bind_ex, outE_ok, outE_ex, retF_nx, retF_rt, retF_xc, x_optR, x_eV, x_eC, x_kB, x_eB, x_eU, x_eF, x_kM, x_eM, x_ift, x_iff, x_eIf, x_kTup, x_kLst, x_eTup, x_eLst, x_aN, x_kCc, x_kC, x_aC, x_tV, x_kCn, x_kCm, x_tCm, x_okB, x_tA, x_tO, x_kN, x_tN, x_tCh, x_kCj, x_kCi, x_kCh, x_eCh, x_kNb, x_kAn, x_kOr, x_kNo, x_eAnd, x_eOr, x_eNot, x_kCl, x_eCall, x_kS2, x_kS1, x_eSl, x_oN, x_asO, x_oS, x_mLoc, x_kML, x_eML, x_kM0, x_kMl0, x_eML0, x_truB, x_truI, x_asB, x_cnx, x_crt, x_cbk, x_cct, x_cxc, x_sSeq, x_sNil, x_sBrk, x_sCnt, x_kEx, x_kSet, x_sEx, x_sSet, x_okO, x_putsN, x_putsC, x_kPar, x_sPar, x_kRet, x_sRet, x_sRetN, x_sIf, x_kSb3, x_kSb2, x_kSb1, x_sSub, x_kAsg, x_sAsg, x_pnm, x_ptp, x_kFor, x_sFor, x_itT, x_iR1, x_kR2, x_iR2, x_iE, x_tY, x_wN, x_wC, List.getElem?_cons_zero, List.getElem?_cons_succ, List.set_cons_zero, List.set_cons_succ, List.append_nil, List.nil_append, List.cons_append, List.length_cons, List.length_nil, Nat.reduceLeDiff, Nat.reduceAdd, Bool.not_true, Bool.not_false, T_ok, x_kMt, x_sMt, x_mtN, x_mtC, x_sWh, true_or, true_and, and_true, if_true, if_false, isi_tt, len3, nin3, ixa, isi_ss, sl3, l1, len2, n22, l2, i0 "shift" "not" false rfl, i0 "shift" "shift" true rfl, ixb, hb (M := M), z, slh]
  | times n a =>
    have l1 : ∀ M, dIn false (.str "times") k_LEAVES M = .ok (.bl false) M := fun _ => rfl
    have l2 : ∀ M, dIn false (.str "times") k_PAIRED M = .ok (.bl false) M := fun _ => rfl
    have z : (decide ((0 : Int) - 9 ≤ n) && decide (n ≤ 9)) = true := by
      have := ho.1
      rw [Bool.and_eq_true, decide_eq_true_eq, decide_eq_true_eq]; omega
    simp only [L_parts, Ex.enc, Ex.kids, List.map_nil, List.map_cons, bind_ok, bind_ex, outE_ok, outE_ex, retF_nx, retF_rt, retF_xc, x_optR, x_eV, x_eC, x_kB, x_eB, x_eU, x_eF, x_kM, x_eM, x_ift, x_iff, x_eIf, x_kTup, x_kLst, x_eTup, x_eLst, x_aN, x_kCc, x_kC, x_aC, x_tV, x_kCn, x_kCm, x_tCm, x_okB, x_tA, x_tO, x_kN, x_tN, x_tCh, x_kCj, x_kCi, x_kCh, x_eCh, x_kNb, x_kAn, x_kOr, x_kNo, x_eAnd, x_eOr, x_eNot, x_kCl, x_eCall, x_kS2, x_kS1, x_eSl, x_oN, x_asO, x_oS, x_mLoc, x_kML, x_eML, x_kM0, x_kMl0, x_eML0, x_truB, x_truI, x_asB, x_cnx, x_crt, x_cbk, x_cct, x_cxc, x_sSeq, x_sNil, x_sBrk, x_sCnt, x_kEx, x_kSet, x_sEx, x_sSet, x_okO, x_putsN, x_putsC, x_kPar, x_sPar, x_kRet, x_sRet, x_sRetN, x_sIf, x_kSb3, x_kSb2, x_kSb1, x_sSub, x_kAsg, x_sAsg, x_pnm, x_ptp, x_kFor, x_sFor, x_itT, x_iR1, x_kR2, x_iR2, x_iE, x_tY, x_wN, x_wC, List.getElem?_cons_zero, List.getElem?_cons_succ, List.set_cons_zero, List.set_cons_succ, List.append_nil, List.nil_append, List.cons_append, List.length_cons, List.length_nil, Nat.reduceLeDiff, Nat.reduceAdd, Bool.not_true, Bool.not_false, T_ok, x_kMt, x_sMt, x_mtN, x_mtC, x_sWh, true_or, true_and, and_true, if_true, if_false, isi_tt, len3, nin3, ixa, isi_ss, sl3, l1, len2, n22, l2, i0 "times" "not" false rfl, i0 "times" "shift" false rfl, i0 "times" "times" true rfl, ixb, dSub, hb (M := M), z, sl2]
end G

/-! X2: the number of operations, counted with a list of what waits; the worth. -/
namespace G
open PySem L2
def L_counted (pf : Fn) : LS :=
  (sSeq (sPar [2, 3] (aC (eC (.int 0)) (aC (eLst (aC (eV 0) aN)) aN)))
  (sSeq (sWh 1000000 (tCm dNe (eV 3) (eLst aN))
  (sSeq (sSet 4 (eCall pf [] (aC (eML0 mPop (eV 3)) aN)))
  (sSeq (sIf (tCm dIsN (eV 4) (eC .non))
  (sRet (eC .non))
  sNil)
  (sSeq (sSet 2 (eB dAdd (eV 2) (eF bInt (aC (eB dNe (eV 4) (eTup aN)) aN))))
  (sSeq (sIf (tCm (dCmpI fun i j => decide (j < i)) (eV 2) (eV 1))
  (sRet (eC .non))
  sNil)
  (sEx (eML mExt (eV 3) (aC (eF bList (aC (eV 4) aN)) aN))))))))
  (sRet (eV 2))))
theorem pop_ok {M : Mem} {n : Nat} {ds : List D} {y : D} (h : M[n]? = some (.lst (ds ++ [y]))) : mPop (.loc n) [] M = .ok y (M.set n (.lst ds)) := by
  simp only [mPop, h, List.getLast?_append, List.getLast?_singleton, Option.some_or, List.dropLast_concat]
theorem ext_ok {M : Mem} {n k : Nat} {ds es : List D} (h : M[n]? = some (.lst ds)) (hk : M[k]? = some (.lst es)) (hl : ds.length + es.length ≤ big) : mExt (.loc n) [.loc k] M = .ok .non (M.set n (.lst (ds ++ es))) := by
  simp only [mExt, h, hk]; rw [if_pos hl]
def opsL (l : List Ex) : Nat := (l.map Ex.ops).sum
def nodL (l : List Ex) : Nat := (l.map Ex.nodes).sum
theorem ops_kids (e : Ex) : e.ops = (if e.kids.isEmpty then 0 else 1) + opsL e.kids := by
  cases e <;> simp [Ex.ops, Ex.kids, opsL] <;> omega
theorem nod_kids (e : Ex) : e.nodes = 1 + nodL e.kids := by
  cases e <;> simp [Ex.nodes, Ex.kids, nodL] <;> omega
theorem ok_kids {e : Ex} (h : e.ok) : ∀ a ∈ e.kids, a.ok := by
  cases e <;> simp only [Ex.kids, List.mem_cons, List.not_mem_nil, or_false, false_implies, implies_true, forall_eq, forall_eq_or_imp]
  · exact h
  · exact h
  · exact h.1
  · exact h.2
theorem ops_mem {l : List Ex} {a : Ex} (h : a ∈ l) : a.ops ≤ opsL l := by
  induction l with
  | nil => cases h
  | cons b l ih =>
    simp only [opsL, List.map_cons, List.sum_cons] at ih ⊢
    rcases List.mem_cons.mp h with rfl | h
    · omega
    · have := ih h; omega
theorem len_nod (l : List Ex) : l.length ≤ nodL l := by
  induction l with
  | nil => exact Nat.zero_le _
  | cons a l ih =>
    have := a.nodes_pos
    simp only [nodL, List.map_cons, List.sum_cons, List.length_cons] at ih ⊢
    omega
theorem lays_enc {l : List Ex} {n : Nat} (h : ∀ a ∈ l, a.ops ≤ n) : Lays (n + 1) (l.map Ex.enc) := Lays.of fun d m => by
  obtain ⟨a, ha, rfl⟩ := List.mem_map.mp m
  exact a.lay.mono (Nat.succ_le_succ (h a ha))
theorem counted_ok {f pf : Fn} (hp : IsParts pf) (h : ∀ d g M, f [d, g] M = retF (L_counted pf [some d, some g, none, none, none] M)) {e : Ex} {most : Nat} {M : Mem} (ho : e.ok) (hm : e.ops ≤ most) (h50 : most ≤ 50) : ∃ M', f [e.enc, .int most] M = .ok (.int (e.ops : Nat)) M' ∧ Kp N0 M M' := by
  rw [h]
  obtain ⟨L', M', e1, x4, hL, hK⟩ := wh_T (c := (tCm dNe (eV 3) (eLst aN))) (b := (sSeq (sSet 4 (eCall pf [] (aC (eML0 mPop (eV 3)) aN)))
    (sSeq (sIf (tCm dIsN (eV 4) (eC .non))
    (sRet (eC .non))
    sNil)
    (sSeq (sSet 2 (eB dAdd (eV 2) (eF bInt (aC (eB dNe (eV 4) (eTup aN)) aN))))
    (sSeq (sIf (tCm (dCmpI fun i j => decide (j < i)) (eV 2) (eV 1))
    (sRet (eC .non))
    sNil)
    (sEx (eML mExt (eV 3) (aC (eF bList (aC (eV 4) aN)) aN)))))))) (fun m L M' => ∃ (l : List Ex) (n : Nat) (x4 : Option D), L = [some e.enc, some (.int most), some (.int n), some (.loc M.length), x4] ∧ M'[M.length]? = some (.lst (l.map Ex.enc)) ∧ (∀ a ∈ l, a.ok) ∧ n + opsL l = e.ops ∧ nodL l = m ∧ m ≤ 1000 ∧ Kp N0 M M')
    (fun L M' => ∃ x4, L = [some e.enc, some (.int most), some (.int (e.ops : Nat)), some (.loc M.length), x4] ∧ Kp N0 M M')
    (fun m L M' ⟨l, n, x4, hL, hq, hok, hn, hmm, hms, hK⟩ => by
      subst hL
      rcases List.eq_nil_or_concat l with rfl | ⟨l', a, hl'⟩
      · simp [nodL] at hmm
      rw [List.concat_eq_append] at hl'
      subst hl'
      generalize l' = l at *
      have hl : Lays 51 ((l ++ [a]).map Ex.enc) := (lays_enc (n := 50) fun b hb => Nat.le_trans (ops_mem hb) (by omega))
      have hne := (lst_nil hl (by decide) (M := M' ++ [.lst []]) (p := M.length) (z := M'.length) ((Kp.push (S := N0) M' _).at hq id) (push_at _ _)).1
      have he : (!((l ++ [a]).map Ex.enc).isEmpty) = true := by simp
      rw [he] at hne
      have hq2 : (M' ++ [O.lst []])[M.length]? = some (.lst (l.map Ex.enc ++ [a.enc])) := by rw [(Kp.push (S := N0) M' _).at hq id, List.map_append]; rfl
      have hq3 := set_at (o := O.lst (l.map Ex.enc)) (mem_lt hq2)
      have ha : a.ok := hok a (by simp)
      have hk := (tup_nil (lays_enc (l := a.kids) (n := 50) fun b hb => Nat.le_trans (ops_mem hb) (by
        have := ops_kids a
        have := ops_mem (l := l ++ [a]) (a := a) (by simp)
        omega)) (by decide) (M := (M' ++ [O.lst []]).set M.length (.lst (l.map Ex.enc)))).1
      have hsum : opsL (l ++ [a]) = opsL l + a.ops := by simp [opsL]
      have hnod : nodL (l ++ [a]) = nodL l + a.nodes := by simp [nodL]
      have hb : ∀ M, bInt [.bl (!(a.kids.map Ex.enc).isEmpty)] M = .ok (.int ((if a.kids.isEmpty then 0 else 1 : Nat) : Int)) M := fun M => by
        simp only [bInt, List.isEmpty_map]
        cases a.kids.isEmpty <;> rfl
      have hops := ops_kids a
      have hmx : ¬ ((most : Nat) : Int) < (n : Int) + ((if a.kids.isEmpty then 0 else 1 : Nat) : Int) := by omega
      have hN : ∀ M, dIsN (.tup (a.kids.map Ex.enc)) .non M = .ok (.bl false) M := fun _ => rfl
      have hx : ((M' ++ [O.lst []]).set M.length (.lst (l.map Ex.enc)) ++ [O.lst (a.kids.map Ex.enc)])[M.length]? = some (.lst (l.map Ex.enc)) := (Kp.push (S := N0) _ _).at hq3 id
      have hlen : (l.map Ex.enc).length + (a.kids.map Ex.enc).length ≤ G.big := by
        have h1 := len_nod l
        have h2 := len_nod a.kids
        have h3 := nod_kids a
        rw [List.length_map, List.length_map]
        exact Nat.le_trans (show _ ≤ 1001 by omega) (by decide)
      simp only [bind_ok, bind_ex, outE_ok, outE_ex, retF_nx, retF_rt, retF_xc, x_optR, x_eV, x_eC, x_kB, x_eB, x_eU, x_eF, x_kM, x_eM, x_ift, x_iff, x_eIf, x_kTup, x_kLst, x_eTup, x_eLst, x_aN, x_kCc, x_kC, x_aC, x_tV, x_kCn, x_kCm, x_tCm, x_okB, x_tA, x_tO, x_kN, x_tN, x_tCh, x_kCj, x_kCi, x_kCh, x_eCh, x_kNb, x_kAn, x_kOr, x_kNo, x_eAnd, x_eOr, x_eNot, x_kCl, x_eCall, x_kS2, x_kS1, x_eSl, x_oN, x_asO, x_oS, x_mLoc, x_kML, x_eML, x_kM0, x_kMl0, x_eML0, x_truB, x_truI, x_asB, x_cnx, x_crt, x_cbk, x_cct, x_cxc, x_sSeq, x_sNil, x_sBrk, x_sCnt, x_kEx, x_kSet, x_sEx, x_sSet, x_okO, x_putsN, x_putsC, x_kPar, x_sPar, x_kRet, x_sRet, x_sRetN, x_sIf, x_kSb3, x_kSb2, x_kSb1, x_sSub, x_kAsg, x_sAsg, x_pnm, x_ptp, x_kFor, x_sFor, x_itT, x_iR1, x_kR2, x_iR2, x_iE, x_tY, x_wN, x_wC, List.getElem?_cons_zero, List.getElem?_cons_succ, List.set_cons_zero, List.set_cons_succ, List.append_nil, List.nil_append, List.cons_append, List.length_cons, List.length_nil, Nat.reduceLeDiff, Nat.reduceAdd, Bool.not_true, Bool.not_false, T_ok, x_kMt, x_sMt, x_mtN, x_mtC, x_sWh, true_or, true_and, and_true, if_true, if_false, hne, pop_ok hq2, hp ha, hN, hk, hb, dAdd, dCmpI, hmx, decide_false, list_tup, ext_ok hx (push_at _ _) hlen]
      refine ⟨nodL (l ++ a.kids), ?_, l ++ a.kids, n + (if a.kids.isEmpty then 0 else 1), _, rfl, ?_, ?_, ?_, rfl, ?_, ?_⟩
      · have := nod_kids a
        simp only [nodL, List.map_append, List.sum_append] at hmm hnod ⊢
        simp only [nodL] at this
        omega
      · rw [set_at (mem_lt hx), List.map_append]
      · intro b m
        rcases List.mem_append.mp m with m | m
        · exact hok b (by simp [m])
        · exact ok_kids ha b m
      · simp only [opsL, List.map_append, List.sum_append] at hn hsum hops ⊢
        omega
      · have := nod_kids a
        simp only [nodL, List.map_append, List.sum_append] at hmm hnod ⊢
        simp only [nodL] at this
        omega
      · exact (((hK.pushn).setn (Nat.le_refl _)).pushn).setn (Nat.le_refl _))
    (fun L M' ⟨l, n, x4, hL, hq, hok, hn, hmm, hms, hK⟩ => by
      subst hL
      have hl0 : l = [] := by
        have := len_nod l
        exact List.eq_nil_of_length_eq_zero (by omega)
      subst hl0
      have hne := (lst_nil (Lays.nil (k := 0)) (by decide) (M := M' ++ [.lst []]) (p := M.length) (z := M'.length) ((Kp.push (S := N0) M' _).at hq id) (push_at _ _)).1
      simp only [bind_ok, bind_ex, outE_ok, outE_ex, retF_nx, retF_rt, retF_xc, x_optR, x_eV, x_eC, x_kB, x_eB, x_eU, x_eF, x_kM, x_eM, x_ift, x_iff, x_eIf, x_kTup, x_kLst, x_eTup, x_eLst, x_aN, x_kCc, x_kC, x_aC, x_tV, x_kCn, x_kCm, x_tCm, x_okB, x_tA, x_tO, x_kN, x_tN, x_tCh, x_kCj, x_kCi, x_kCh, x_eCh, x_kNb, x_kAn, x_kOr, x_kNo, x_eAnd, x_eOr, x_eNot, x_kCl, x_eCall, x_kS2, x_kS1, x_eSl, x_oN, x_asO, x_oS, x_mLoc, x_kML, x_eML, x_kM0, x_kMl0, x_eML0, x_truB, x_truI, x_asB, x_cnx, x_crt, x_cbk, x_cct, x_cxc, x_sSeq, x_sNil, x_sBrk, x_sCnt, x_kEx, x_kSet, x_sEx, x_sSet, x_okO, x_putsN, x_putsC, x_kPar, x_sPar, x_kRet, x_sRet, x_sRetN, x_sIf, x_kSb3, x_kSb2, x_kSb1, x_sSub, x_kAsg, x_sAsg, x_pnm, x_ptp, x_kFor, x_sFor, x_itT, x_iR1, x_kR2, x_iR2, x_iE, x_tY, x_wN, x_wC, List.getElem?_cons_zero, List.getElem?_cons_succ, List.set_cons_zero, List.set_cons_succ, List.append_nil, List.nil_append, List.cons_append, List.length_cons, List.length_nil, Nat.reduceLeDiff, Nat.reduceAdd, Bool.not_true, Bool.not_false, T_ok, x_kMt, x_sMt, x_mtN, x_mtC, x_sWh, true_or, true_and, and_true, if_true, if_false, hne]
      have : n = e.ops := by simpa [opsL] using hn
      subst this
      exact ⟨rfl, _, rfl, hK.pushn⟩)
    1000000 e.nodes [some e.enc, some (.int most), some (.int (0 : Nat)), some (.loc M.length), none] (M ++ [.lst [e.enc]]) ⟨[e], 0, none, rfl, push_at _ _, by simpa using ho, by simp [opsL], by simp [nodL], by have := e.nodes_ops; omega, Kp.push _ _⟩ (by have := e.nodes_ops; omega)
  subst hL
  refine ⟨M', ?_, hK⟩
  simp only [Int.natCast_zero] at e1
  simp only [L_counted, bind_ok, bind_ex, outE_ok, outE_ex, retF_nx, retF_rt, retF_xc, x_optR, x_eV, x_eC, x_kB, x_eB, x_eU, x_eF, x_kM, x_eM, x_ift, x_iff, x_eIf, x_kTup, x_kLst, x_eTup, x_eLst, x_aN, x_kCc, x_kC, x_aC, x_tV, x_kCn, x_kCm, x_tCm, x_okB, x_tA, x_tO, x_kN, x_tN, x_tCh, x_kCj, x_kCi, x_kCh, x_eCh, x_kNb, x_kAn, x_kOr, x_kNo, x_eAnd, x_eOr, x_eNot, x_kCl, x_eCall, x_kS2, x_kS1, x_eSl, x_oN, x_asO, x_oS, x_mLoc, x_kML, x_eML, x_kM0, x_kMl0, x_eML0, x_truB, x_truI, x_asB, x_cnx, x_crt, x_cbk, x_cct, x_cxc, x_sSeq, x_sNil, x_sBrk, x_sCnt, x_kEx, x_kSet, x_sEx, x_sSet, x_okO, x_putsN, x_putsC, x_kPar, x_sPar, x_kRet, x_sRet, x_sRetN, x_sIf, x_kSb3, x_kSb2, x_kSb1, x_sSub, x_kAsg, x_sAsg, x_pnm, x_ptp, x_kFor, x_sFor, x_itT, x_iR1, x_kR2, x_iR2, x_iE, x_tY, x_wN, x_wC, List.getElem?_cons_zero, List.getElem?_cons_succ, List.set_cons_zero, List.set_cons_succ, List.append_nil, List.nil_append, List.cons_append, List.length_cons, List.length_nil, Nat.reduceLeDiff, Nat.reduceAdd, Bool.not_true, Bool.not_false, T_ok, x_kMt, x_sMt, x_mtN, x_mtC, x_sWh, true_or, true_and, and_true, if_true, if_false, x_sWh, e1]
def L_isex (cf : Fn) : LS := (sRet (eB dNotN (eCall cf [] (aC (eV 0) (aC (eC (.int 10)) aN))) (eC .non)))
def L_needex (ie : Fn) : LS := (sIf (tN (tV (eCall ie [] (aC (eV 0) aN))))
  (sNo)
  sNil)
def IsEx (f : Fn) : Prop := ∀ {e : Ex} {M : Mem}, e.ok → e.ops ≤ 10 → ∃ M', f [e.enc] M = .ok (.bl true) M' ∧ Kp N0 M M'
theorem isEx {f cf pf : Fn} (hp : IsParts pf) (hc : ∀ d g M, cf [d, g] M = retF (L_counted pf [some d, some g, none, none, none] M)) (h : ∀ d M, f [d] M = retF (L_isex cf [some d] M)) : IsEx f := fun {e M} ho hm => by
  obtain ⟨M', e1, k⟩ := counted_ok hp hc (most := 10) (M := M) ho hm (by decide)
  refine ⟨M', ?_, k⟩
  rw [h]
  have : ∀ M, dNotN (.int (e.ops : Nat)) .non M = .ok (.bl true) M := fun _ => rfl
  have e1' : cf [e.enc, .int 10] M = .ok (.int (e.ops : Nat)) M' := e1
  simp only [L_isex, bind_ok, bind_ex, outE_ok, outE_ex, retF_nx, retF_rt, retF_xc, x_optR, x_eV, x_eC, x_kB, x_eB, x_eU, x_eF, x_kM, x_eM, x_ift, x_iff, x_eIf, x_kTup, x_kLst, x_eTup, x_eLst, x_aN, x_kCc, x_kC, x_aC, x_tV, x_kCn, x_kCm, x_tCm, x_okB, x_tA, x_tO, x_kN, x_tN, x_tCh, x_kCj, x_kCi, x_kCh, x_eCh, x_kNb, x_kAn, x_kOr, x_kNo, x_eAnd, x_eOr, x_eNot, x_kCl, x_eCall, x_kS2, x_kS1, x_eSl, x_oN, x_asO, x_oS, x_mLoc, x_kML, x_eML, x_kM0, x_kMl0, x_eML0, x_truB, x_truI, x_asB, x_cnx, x_crt, x_cbk, x_cct, x_cxc, x_sSeq, x_sNil, x_sBrk, x_sCnt, x_kEx, x_kSet, x_sEx, x_sSet, x_okO, x_putsN, x_putsC, x_kPar, x_sPar, x_kRet, x_sRet, x_sRetN, x_sIf, x_kSb3, x_kSb2, x_kSb1, x_sSub, x_kAsg, x_sAsg, x_pnm, x_ptp, x_kFor, x_sFor, x_itT, x_iR1, x_kR2, x_iR2, x_iE, x_tY, x_wN, x_wC, List.getElem?_cons_zero, List.getElem?_cons_succ, List.set_cons_zero, List.set_cons_succ, List.append_nil, List.nil_append, List.cons_append, List.length_cons, List.length_nil, Nat.reduceLeDiff, Nat.reduceAdd, Bool.not_true, Bool.not_false, T_ok, x_kMt, x_sMt, x_mtN, x_mtC, x_sWh, true_or, true_and, and_true, if_true, if_false, e1', this]
def NeedEx (f : Fn) : Prop := ∀ {e : Ex} {M : Mem}, e.ok → e.ops ≤ 10 → ∃ M', f [e.enc] M = .ok .non M' ∧ Kp N0 M M'
theorem needEx {f ie : Fn} (hi : IsEx ie) (h : ∀ d M, f [d] M = retF (L_needex ie [some d] M)) : NeedEx f := fun {e M} ho hm => by
  obtain ⟨M', e1, k⟩ := hi (M := M) ho hm
  refine ⟨M', ?_, k⟩
  rw [h]
  simp only [L_needex, bind_ok, bind_ex, outE_ok, outE_ex, retF_nx, retF_rt, retF_xc, x_optR, x_eV, x_eC, x_kB, x_eB, x_eU, x_eF, x_kM, x_eM, x_ift, x_iff, x_eIf, x_kTup, x_kLst, x_eTup, x_eLst, x_aN, x_kCc, x_kC, x_aC, x_tV, x_kCn, x_kCm, x_tCm, x_okB, x_tA, x_tO, x_kN, x_tN, x_tCh, x_kCj, x_kCi, x_kCh, x_eCh, x_kNb, x_kAn, x_kOr, x_kNo, x_eAnd, x_eOr, x_eNot, x_kCl, x_eCall, x_kS2, x_kS1, x_eSl, x_oN, x_asO, x_oS, x_mLoc, x_kML, x_eML, x_kM0, x_kMl0, x_eML0, x_truB, x_truI, x_asB, x_cnx, x_crt, x_cbk, x_cct, x_cxc, x_sSeq, x_sNil, x_sBrk, x_sCnt, x_kEx, x_kSet, x_sEx, x_sSet, x_okO, x_putsN, x_putsC, x_kPar, x_sPar, x_kRet, x_sRet, x_sRetN, x_sIf, x_kSb3, x_kSb2, x_kSb1, x_sSub, x_kAsg, x_sAsg, x_pnm, x_ptp, x_kFor, x_sFor, x_itT, x_iR1, x_kR2, x_iR2, x_iE, x_tY, x_wN, x_wC, List.getElem?_cons_zero, List.getElem?_cons_succ, List.set_cons_zero, List.set_cons_succ, List.append_nil, List.nil_append, List.cons_append, List.length_cons, List.length_nil, Nat.reduceLeDiff, Nat.reduceAdd, Bool.not_true, Bool.not_false, T_ok, x_kMt, x_sMt, x_mtN, x_mtC, x_sWh, true_or, true_and, and_true, if_true, if_false, e1]
end G

/-! X3: the worth of an expression. -/
namespace G
open PySem L2
/-! ### bits -/
def Rg (B : Nat) (x : Int) : Prop := -(2 ^ B) ≤ x ∧ x < 2 ^ B
theorem pow_pos2 (B : Nat) : (0 : Int) < 2 ^ B := Int.pow_pos (by decide)
theorem pow_mono {B C : Nat} (l : B ≤ C) : (2 : Int) ^ B ≤ 2 ^ C := by
  rw [pow_nat, pow_nat]
  exact Int.ofNat_le.mpr (Nat.pow_le_pow_right (by decide) l)
theorem Rg.mono {B C : Nat} {x : Int} (h : Rg B x) (l : B ≤ C) : Rg C x := by
  have := pow_mono l
  unfold Rg at h ⊢
  omega
theorem Rg.abs {B : Nat} {x : Int} (h : Rg B x) : x.natAbs ≤ 2 ^ B := by
  unfold Rg at h
  rw [pow_nat] at h
  omega
theorem Rg.abs1 {B : Nat} {x : Int} (h : Rg B x) : x.natAbs < 2 ^ (B + 1) := by
  have := h.abs
  have : 2 ^ B < 2 ^ (B + 1) := Nat.pow_lt_pow_right (by decide) (by omega)
  omega
theorem Rg.of_abs {B : Nat} {x : Int} (h : x.natAbs ≤ 2 ^ B) : Rg (B + 1) x := by
  unfold Rg
  rw [pow_nat]
  have : 2 ^ B < 2 ^ (B + 1) := Nat.pow_lt_pow_right (by decide) (by omega)
  omega
theorem Rg.half {B : Nat} {x : Int} (h : Rg (B + 1) x) : Rg B (x / 2) := by
  unfold Rg at h ⊢
  rw [Int.pow_succ] at h
  omega
theorem and_halves (x y : Int) : Builtin.bitAnd x y = 2 * Builtin.bitAnd (x / 2) (y / 2) + (if x % 2 = 1 ∧ y % 2 = 1 then 1 else 0) := PySem.W.kbt_halves x y
theorem or_halves (x y : Int) : Builtin.bitOr x y = 2 * Builtin.bitOr (x / 2) (y / 2) + (if x % 2 = 1 ∨ y % 2 = 1 then 1 else 0) := by
  unfold Builtin.bitOr Builtin.bitNot
  rw [and_halves]
  have h1 : (-x - 1) / 2 = -(x / 2) - 1 := by omega
  have h2 : (-y - 1) / 2 = -(y / 2) - 1 := by omega
  rw [h1, h2]
  by_cases a : x % 2 = 1 <;> by_cases b : y % 2 = 1
  · rw [if_neg (by omega), if_pos (by omega)]; omega
  · rw [if_neg (by omega), if_pos (by omega)]; omega
  · rw [if_neg (by omega), if_pos (by omega)]; omega
  · rw [if_pos (by omega), if_neg (by omega)]; omega
theorem xor_halves (x y : Int) : Builtin.bitXor x y = 2 * Builtin.bitXor (x / 2) (y / 2) + (if x % 2 = y % 2 then 0 else 1) := by
  unfold Builtin.bitXor
  rw [and_halves, or_halves]
  by_cases a : x % 2 = 1 <;> by_cases b : y % 2 = 1
  · rw [if_pos (by omega), if_pos (by omega), if_pos (by omega)]; omega
  · rw [if_pos (by omega), if_neg (by omega), if_neg (by omega)]; omega
  · rw [if_pos (by omega), if_neg (by omega), if_neg (by omega)]; omega
  · rw [if_neg (by omega), if_neg (by omega), if_pos (by omega)]; omega
/-- what goes half by half -/
theorem rg_halves {f : Int → Int → Int} {g : Int → Int → Int} (h : ∀ x y, f x y = 2 * f (x / 2) (y / 2) + g x y) (hg : ∀ x y, 0 ≤ g x y ∧ g x y ≤ 1) (h0 : ∀ x y, Rg 0 x → Rg 0 y → Rg 0 (f x y)) : ∀ (B : Nat) (x y : Int), Rg B x → Rg B y → Rg B (f x y)
  | 0, x, y, hx, hy => h0 x y hx hy
  | B + 1, x, y, hx, hy => by
    have := rg_halves h hg h0 B _ _ hx.half hy.half
    have q := hg x y
    rw [h]
    unfold Rg at this ⊢
    rw [Int.pow_succ]
    omega
theorem rg0 {x : Int} (h : Rg 0 x) : x = 0 ∨ x = -1 := by
  unfold Rg at h
  simp at h
  omega
theorem rg_base {f : Int → Int → Int} (h : ∀ x y, (x = 0 ∨ x = -1) → (y = 0 ∨ y = -1) → f x y = 0 ∨ f x y = -1) : ∀ x y, Rg 0 x → Rg 0 y → Rg 0 (f x y) := fun x y hx hy => by
  unfold Rg
  rcases h x y (rg0 hx) (rg0 hy) with e | e <;> rw [e] <;> decide
theorem rg_and {B : Nat} {x y : Int} (hx : Rg B x) (hy : Rg B y) : Rg B (Builtin.bitAnd x y) :=
  rg_halves and_halves (fun x y => by split <;> decide) (rg_base fun x y hx hy => by rcases hx with rfl | rfl <;> rcases hy with rfl | rfl <;> decide) B x y hx hy
theorem rg_or {B : Nat} {x y : Int} (hx : Rg B x) (hy : Rg B y) : Rg B (Builtin.bitOr x y) :=
  rg_halves or_halves (fun x y => by split <;> decide) (rg_base fun x y hx hy => by rcases hx with rfl | rfl <;> rcases hy with rfl | rfl <;> decide) B x y hx hy
theorem rg_xor {B : Nat} {x y : Int} (hx : Rg B x) (hy : Rg B y) : Rg B (Builtin.bitXor x y) :=
  rg_halves xor_halves (fun x y => by split <;> decide) (rg_base fun x y hx hy => by rcases hx with rfl | rfl <;> rcases hy with rfl | rfl <;> decide) B x y hx hy
/-- the same w lowest bits -/
def Cg (w : Nat) (x y : Int) : Prop := ∃ k : Int, x = y + k * 2 ^ w
theorem Cg.refl {w : Nat} {x : Int} : Cg w x x := ⟨0, by simp⟩
theorem Cg.fmod {w : Nat} {x y : Int} (h : Cg w x y) : x.fmod (2 ^ w) = y.fmod (2 ^ w) := by
  obtain ⟨k, rfl⟩ := h
  have := Int.le_of_lt (pow_pos2 w)
  rw [Int.fmod_eq_emod_of_nonneg _ this, Int.fmod_eq_emod_of_nonneg _ this, Int.add_mul_emod_self_right]
theorem Cg.half {w : Nat} {x y : Int} (h : Cg (w + 1) x y) : Cg w (x / 2) (y / 2) ∧ x % 2 = y % 2 := by
  obtain ⟨k, h⟩ := h
  rw [Int.pow_succ, ← Int.mul_assoc] at h
  exact ⟨⟨k, by omega⟩, by omega⟩
theorem cg_halves {f : Int → Int → Int} {g : Int → Int → Int} (h : ∀ x y, f x y = 2 * f (x / 2) (y / 2) + g x y) (hg : ∀ x y x' y', x % 2 = x' % 2 → y % 2 = y' % 2 → g x y = g x' y') : ∀ (w : Nat) (x y x' y' : Int), Cg w x x' → Cg w y y' → Cg w (f x y) (f x' y')
  | 0, x, y, x', y', _, _ => ⟨f x y - f x' y', by simp; omega⟩
  | w + 1, x, y, x', y', hx, hy => by
    obtain ⟨k, e⟩ := cg_halves h hg w _ _ _ _ hx.half.1 hy.half.1
    refine ⟨k, ?_⟩
    rw [h x y, h x' y', hg x y x' y' hx.half.2 hy.half.2, e, Int.pow_succ, ← Int.mul_assoc]
    omega
theorem cg_and {w : Nat} {x y x' y' : Int} (hx : Cg w x x') (hy : Cg w y y') : Cg w (Builtin.bitAnd x y) (Builtin.bitAnd x' y') := cg_halves and_halves (fun x y x' y' a b => by rw [a, b]) w x y x' y' hx hy
theorem cg_or {w : Nat} {x y x' y' : Int} (hx : Cg w x x') (hy : Cg w y y') : Cg w (Builtin.bitOr x y) (Builtin.bitOr x' y') := cg_halves or_halves (fun x y x' y' a b => by rw [a, b]) w x y x' y' hx hy
theorem cg_xor {w : Nat} {x y x' y' : Int} (hx : Cg w x x') (hy : Cg w y y') : Cg w (Builtin.bitXor x y) (Builtin.bitXor x' y') := cg_halves xor_halves (fun x y x' y' a b => by rw [a, b]) w x y x' y' hx hy
theorem cg_add {w : Nat} {x y x' y' : Int} (hx : Cg w x x') (hy : Cg w y y') : Cg w (x + y) (x' + y') := by
  obtain ⟨a, rfl⟩ := hx; obtain ⟨b, rfl⟩ := hy
  exact ⟨a + b, by rw [Int.add_mul]; omega⟩
theorem cg_sub {w : Nat} {x y x' y' : Int} (hx : Cg w x x') (hy : Cg w y y') : Cg w (x - y) (x' - y') := by
  obtain ⟨a, rfl⟩ := hx; obtain ⟨b, rfl⟩ := hy
  exact ⟨a - b, by rw [Int.sub_mul]; omega⟩
theorem cg_mul {w : Nat} {x x' n : Int} (hx : Cg w x x') : Cg w (n * x) (n * x') := by
  obtain ⟨a, rfl⟩ := hx
  exact ⟨n * a, by rw [Int.mul_add, Int.mul_assoc]⟩
/-! ### the worth -/
def Op.val : Op → Int → Int → Int
  | .and, x, y => Builtin.bitAnd x y
  | .or, x, y => Builtin.bitOr x y
  | .xor, x, y => Builtin.bitXor x y
  | .plus, x, y => x + y
  | .minus, x, y => x - y
def Ex.val (vs : List Int) : Ex → Int
  | .var i => vs.getD i 0
  | .num n => n
  | .not a => -1 - a.val vs
  | .bin o a b => o.val (a.val vs) (b.val vs)
  | .shift a k => a.val vs * 2 ^ k
  | .times n a => n * a.val vs
theorem Op.rg {B : Nat} {x y : Int} (o : Op) (hx : Rg B x) (hy : Rg B y) : Rg (B + 1) (o.val x y) := by
  cases o with
  | and => exact (rg_and hx hy).mono (by omega)
  | or => exact (rg_or hx hy).mono (by omega)
  | xor => exact (rg_xor hx hy).mono (by omega)
  | plus => unfold Rg at *; simp only [Op.val]; rw [Int.pow_succ]; omega
  | minus => unfold Rg at *; simp only [Op.val]; rw [Int.pow_succ]; omega
theorem Ex.rg {B : Nat} {vs : List Int} (hv : ∀ v ∈ vs, Rg B v) (hB : 10 ≤ B) (e : Ex) (ho : e.ok) : Rg (B + 4 * e.ops) (e.val vs) := by
  induction e with
  | var i =>
    simp only [Ex.val, Ex.ops]
    by_cases h : i < vs.length
    · rw [List.getD_eq_getElem?_getD, List.getElem?_eq_getElem h]; exact hv _ (List.getElem_mem h)
    · rw [List.getD_eq_getElem?_getD, List.getElem?_eq_none (by omega)]
      exact ⟨by have := pow_pos2 B; simp; omega, pow_pos2 B⟩
  | num n =>
    have : Rg 10 n := by have := ho.1; have := ho.2; unfold Rg; constructor <;> (simp; omega)
    exact this.mono hB
  | not a ih =>
    have h := ih ho
    have h2 := h.mono (C := B + 4 * (a.ops + 1)) (by omega)
    simp only [Ex.val, Ex.ops]
    unfold Rg at h2 ⊢
    omega
  | bin o a b iha ihb =>
    have h1 := (iha ho.1).mono (C := B + 4 * a.ops + 4 * b.ops) (by omega)
    have h2 := (ihb ho.2).mono (C := B + 4 * a.ops + 4 * b.ops) (by omega)
    exact (o.rg h1 h2).mono (by simp only [Ex.ops]; omega)
  | shift a k ih =>
    have h := ih ho.1
    have hk : (2 : Int) ^ k ≤ 2 ^ 4 := pow_mono ho.2.2
    have hk0 := pow_pos2 k
    simp only [Ex.val, Ex.ops]
    rw [show B + 4 * (a.ops + 1) = B + 4 * a.ops + 4 by omega]
    unfold Rg at h ⊢
    rw [Int.pow_add]
    have := pow_pos2 (B + 4 * a.ops)
    generalize (2 : Int) ^ (B + 4 * a.ops) = P at *
    generalize (2 : Int) ^ k = K at *
    generalize a.val vs = x at *
    constructor
    · have h1 : -P * K ≤ x * K := Int.mul_le_mul_of_nonneg_right h.1 (Int.le_of_lt hk0)
      have h2 : P * K ≤ P * 2 ^ 4 := Int.mul_le_mul_of_nonneg_left hk (by omega)
      rw [Int.neg_mul] at h1
      omega
    · have h1 : x * K < P * K := Int.mul_lt_mul_of_pos_right h.2 hk0
      have h2 : P * K ≤ P * 2 ^ 4 := Int.mul_le_mul_of_nonneg_left hk (by omega)
      omega
  | times n a ih =>
    have h := ih ho.2
    simp only [Ex.val, Ex.ops]
    rw [show B + 4 * (a.ops + 1) = B + 4 * a.ops + 4 by omega]
    unfold Rg at h ⊢
    rw [Int.pow_add]
    have := pow_pos2 (B + 4 * a.ops)
    generalize (2 : Int) ^ (B + 4 * a.ops) = P at *
    generalize a.val vs = x at *
    have hn := ho.1
    have hx : x.natAbs ≤ P.natAbs := by omega
    have h1 : (n * x).natAbs ≤ 9 * P.natAbs := by
      rw [Int.natAbs_mul]
      exact Nat.mul_le_mul (by omega) hx
    have h2 : (2 : Int) ^ 4 = 16 := rfl
    rw [h2]
    omega
theorem Ex.cg {w : Nat} {vs us : List Int} (h : ∀ i : Nat, Cg w (vs.getD i 0) (us.getD i 0)) (e : Ex) : Cg w (e.val vs) (e.val us) := by
  induction e with
  | var i => exact h i
  | num n => exact Cg.refl
  | not a ih => exact cg_sub Cg.refl ih
  | bin o a b iha ihb =>
    cases o with
    | and => exact cg_and iha ihb
    | or => exact cg_or iha ihb
    | xor => exact cg_xor iha ihb
    | plus => exact cg_add iha ihb
    | minus => exact cg_sub iha ihb
  | shift a k ih =>
    simp only [Ex.val]
    rw [Int.mul_comm _ (2 ^ k), Int.mul_comm _ (2 ^ k)]
    exact cg_mul ih
  | times n a ih => exact cg_mul ih
/-! ### told by the program, by the law -/
def L_paired : LS :=
  (sSeq (sMt (eV 0) ((.str "and", (sRet (eB (dI Builtin.bitAnd) (eV 1) (eV 2)))) ::
  ((.str "or", (sRet (eB (dI Builtin.bitOr) (eV 1) (eV 2)))) ::
  ((.str "xor", (sRet (eB (dI Builtin.bitXor) (eV 1) (eV 2)))) ::
  ((.str "plus", (sRet (eB dAdd (eV 1) (eV 2)))) ::
  [])))))
  (sRet (eB dSub (eV 1) (eV 2))))
def IsPaired (f : Fn) : Prop := ∀ {o : Op} {x y : Int} {M : Mem}, f [.str o.word, .int x, .int y] M = .ok (.int (o.val x y)) M
theorem isPaired {f : Fn} (h : ∀ d e g M, f [d, e, g] M = retF (L_paired [some d, some e, some g] M)) : IsPaired f := fun {o x y M} => by
  rw [h]
  have q (t : Str) (b : Bool) (z : (o.word == t) = b) : ∀ M, dEq (.str o.word) (.str t) M = .ok (.bl b) M := fun M => by rw [eq_str, z]
  cases o with
  | and => simp only [L_paired, bind_ok, bind_ex, outE_ok, outE_ex, retF_nx, retF_rt, retF_xc, x_optR, x_eV, x_eC, x_kB, x_eB, x_eU, x_eF, x_kM, x_eM, x_ift, x_iff, x_eIf, x_kTup, x_kLst, x_eTup, x_eLst, x_aN, x_kCc, x_kC, x_aC, x_tV, x_kCn, x_kCm, x_tCm, x_okB, x_tA, x_tO, x_kN, x_tN, x_tCh, x_kCj, x_kCi, x_kCh, x_eCh, x_kNb, x_kAn, x_kOr, x_kNo, x_eAnd, x_eOr, x_eNot, x_kCl, x_eCall, x_kS2, x_kS1, x_eSl, x_oN, x_asO, x_oS, x_mLoc, x_kML, x_eML, x_kM0, x_kMl0, x_eML0, x_truB, x_truI, x_asB, x_cnx, x_crt, x_cbk, x_cct, x_cxc, x_sSeq, x_sNil, x_sBrk, x_sCnt, x_kEx, x_kSet, x_sEx, x_sSet, x_okO, x_putsN, x_putsC, x_kPar, x_sPar, x_kRet, x_sRet, x_sRetN, x_sIf, x_kSb3, x_kSb2, x_kSb1, x_sSub, x_kAsg, x_sAsg, x_pnm, x_ptp, x_kFor, x_sFor, x_itT, x_iR1, x_kR2, x_iR2, x_iE, x_tY, x_wN, x_wC, List.getElem?_cons_zero, List.getElem?_cons_succ, List.set_cons_zero, List.set_cons_succ, List.append_nil, List.nil_append, List.cons_append, List.length_cons, List.length_nil, Nat.reduceLeDiff, Nat.reduceAdd, Bool.not_true, Bool.not_false, T_ok, x_kMt, x_sMt, x_mtN, x_mtC, x_sWh, true_or, true_and, and_true, if_true, if_false, q "and" true rfl, dI, Op.val]
  | or => simp only [L_paired, bind_ok, bind_ex, outE_ok, outE_ex, retF_nx, retF_rt, retF_xc, x_optR, x_eV, x_eC, x_kB, x_eB, x_eU, x_eF, x_kM, x_eM, x_ift, x_iff, x_eIf, x_kTup, x_kLst, x_eTup, x_eLst, x_aN, x_kCc, x_kC, x_aC, x_tV, x_kCn, x_kCm, x_tCm, x_okB, x_tA, x_tO, x_kN, x_tN, x_tCh, x_kCj, x_kCi, x_kCh, x_eCh, x_kNb, x_kAn, x_kOr, x_kNo, x_eAnd, x_eOr, x_eNot, x_kCl, x_eCall, x_kS2, x_kS1, x_eSl, x_oN, x_asO, x_oS, x_mLoc, x_kML, x_eML, x_kM0, x_kMl0, x_eML0, x_truB, x_truI, x_asB, x_cnx, x_crt, x_cbk, x_cct, x_cxc, x_sSeq, x_sNil, x_sBrk, x_sCnt, x_kEx, x_kSet, x_sEx, x_sSet, x_okO, x_putsN, x_putsC, x_kPar, x_sPar, x_kRet, x_sRet, x_sRetN, x_sIf, x_kSb3, x_kSb2, x_kSb1, x_sSub, x_kAsg, x_sAsg, x_pnm, x_ptp, x_kFor, x_sFor, x_itT, x_iR1, x_kR2, x_iR2, x_iE, x_tY, x_wN, x_wC, List.getElem?_cons_zero, List.getElem?_cons_succ, List.set_cons_zero, List.set_cons_succ, List.append_nil, List.nil_append, List.cons_append, List.length_cons, List.length_nil, Nat.reduceLeDiff, Nat.reduceAdd, Bool.not_true, Bool.not_false, T_ok, x_kMt, x_sMt, x_mtN, x_mtC, x_sWh, true_or, true_and, and_true, if_true, if_false, q "and" false rfl, q "or" true rfl, dI, Op.val]
  | xor => simp only [L_paired, bind_ok, bind_ex, outE_ok, outE_ex, retF_nx, retF_rt, retF_xc, x_optR, x_eV, x_eC, x_kB, x_eB, x_eU, x_eF, x_kM, x_eM, x_ift, x_iff, x_eIf, x_kTup, x_kLst, x_eTup, x_eLst, x_aN, x_kCc, x_kC, x_aC, x_tV, x_kCn, x_kCm, x_tCm, x_okB, x_tA, x_tO, x_kN, x_tN, x_tCh, x_kCj, x_kCi, x_kCh, x_eCh, x_kNb, x_kAn, x_kOr, x_kNo, x_eAnd, x_eOr, x_eNot, x_kCl, x_eCall, x_kS2, x_kS1, x_eSl, x_oN, x_asO, x_oS, x_mLoc, x_kML, x_eML, x_kM0, x_kMl0, x_eML0, x_truB, x_truI, x_asB, x_cnx, x_crt, x_cbk, x_cct, x_cxc, x_sSeq, x_sNil, x_sBrk, x_sCnt, x_kEx, x_kSet, x_sEx, x_sSet, x_okO, x_putsN, x_putsC, x_kPar, x_sPar, x_kRet, x_sRet, x_sRetN, x_sIf, x_kSb3, x_kSb2, x_kSb1, x_sSub, x_kAsg, x_sAsg, x_pnm, x_ptp, x_kFor, x_sFor, x_itT, x_iR1, x_kR2, x_iR2, x_iE, x_tY, x_wN, x_wC, List.getElem?_cons_zero, List.getElem?_cons_succ, List.set_cons_zero, List.set_cons_succ, List.append_nil, List.nil_append, List.cons_append, List.length_cons, List.length_nil, Nat.reduceLeDiff, Nat.reduceAdd, Bool.not_true, Bool.not_false, T_ok, x_kMt, x_sMt, x_mtN, x_mtC, x_sWh, true_or, true_and, and_true, if_true, if_false, q "and" false rfl, q "or" false rfl, q "xor" true rfl, dI, Op.val]
  | plus => simp only [L_paired, bind_ok, bind_ex, outE_ok, outE_ex, retF_nx, retF_rt, retF_xc, x_optR, x_eV, x_eC, x_kB, x_eB, x_eU, x_eF, x_kM, x_eM, x_ift, x_iff, x_eIf, x_kTup, x_kLst, x_eTup, x_eLst, x_aN, x_kCc, x_kC, x_aC, x_tV, x_kCn, x_kCm, x_tCm, x_okB, x_tA, x_tO, x_kN, x_tN, x_tCh, x_kCj, x_kCi, x_kCh, x_eCh, x_kNb, x_kAn, x_kOr, x_kNo, x_eAnd, x_eOr, x_eNot, x_kCl, x_eCall, x_kS2, x_kS1, x_eSl, x_oN, x_asO, x_oS, x_mLoc, x_kML, x_eML, x_kM0, x_kMl0, x_eML0, x_truB, x_truI, x_asB, x_cnx, x_crt, x_cbk, x_cct, x_cxc, x_sSeq, x_sNil, x_sBrk, x_sCnt, x_kEx, x_kSet, x_sEx, x_sSet, x_okO, x_putsN, x_putsC, x_kPar, x_sPar, x_kRet, x_sRet, x_sRetN, x_sIf, x_kSb3, x_kSb2, x_kSb1, x_sSub, x_kAsg, x_sAsg, x_pnm, x_ptp, x_kFor, x_sFor, x_itT, x_iR1, x_kR2, x_iR2, x_iE, x_tY, x_wN, x_wC, List.getElem?_cons_zero, List.getElem?_cons_succ, List.set_cons_zero, List.set_cons_succ, List.append_nil, List.nil_append, List.cons_append, List.length_cons, List.length_nil, Nat.reduceLeDiff, Nat.reduceAdd, Bool.not_true, Bool.not_false, T_ok, x_kMt, x_sMt, x_mtN, x_mtC, x_sWh, true_or, true_and, and_true, if_true, if_false, q "and" false rfl, q "or" false rfl, q "xor" false rfl, q "plus" true rfl, dAdd, Op.val]
  | minus => simp only [L_paired, bind_ok, bind_ex, outE_ok, outE_ex, retF_nx, retF_rt, retF_xc, x_optR, x_eV, x_eC, x_kB, x_eB, x_eU, x_eF, x_kM, x_eM, x_ift, x_iff, x_eIf, x_kTup, x_kLst, x_eTup, x_eLst, x_aN, x_kCc, x_kC, x_aC, x_tV, x_kCn, x_kCm, x_tCm, x_okB, x_tA, x_tO, x_kN, x_tN, x_tCh, x_kCj, x_kCi, x_kCh, x_eCh, x_kNb, x_kAn, x_kOr, x_kNo, x_eAnd, x_eOr, x_eNot, x_kCl, x_eCall, x_kS2, x_kS1, x_eSl, x_oN, x_asO, x_oS, x_mLoc, x_kML, x_eML, x_kM0, x_kMl0, x_eML0, x_truB, x_truI, x_asB, x_cnx, x_crt, x_cbk, x_cct, x_cxc, x_sSeq, x_sNil, x_sBrk, x_sCnt, x_kEx, x_kSet, x_sEx, x_sSet, x_okO, x_putsN, x_putsC, x_kPar, x_sPar, x_kRet, x_sRet, x_sRetN, x_sIf, x_kSb3, x_kSb2, x_kSb1, x_sSub, x_kAsg, x_sAsg, x_pnm, x_ptp, x_kFor, x_sFor, x_itT, x_iR1, x_kR2, x_iR2, x_iE, x_tY, x_wN, x_wC, List.getElem?_cons_zero, List.getElem?_cons_succ, List.set_cons_zero, List.set_cons_succ, List.append_nil, List.nil_append, List.cons_append, List.length_cons, List.length_nil, Nat.reduceLeDiff, Nat.reduceAdd, Bool.not_true, Bool.not_false, T_ok, x_kMt, x_sMt, x_mtN, x_mtC, x_sWh, true_or, true_and, and_true, if_true, if_false, q "and" false rfl, q "or" false rfl, q "xor" false rfl, q "plus" false rfl, dSub, Op.val]
def L_whole (self pr : Fn) : LS :=
  (sSeq (sSet 2 (eB dIx (eV 0) (eC (.int 0))))
  (sSeq (sMt (eV 2) ((.str "var", (sRet (eB dIx (eV 1) (eB dIx (eV 0) (eC (.int 1)))))) ::
  ((.str "number", (sRet (eB dIx (eV 0) (eC (.int 1))))) ::
  ((.str "not", (sRet (eB dSub (eU dNeg (eC (.int 1))) (eCall self [] (aC (eB dIx (eV 0) (eC (.int 1))) (aC (eV 1) aN)))))) ::
  ((.str "shift", (sRet (eB dShl (eCall self [] (aC (eB dIx (eV 0) (eC (.int 1))) (aC (eV 1) aN))) (eB dIx (eV 0) (eC (.int 2)))))) ::
  ((.str "times", (sRet (eB dMul (eB dIx (eV 0) (eC (.int 1))) (eCall self [] (aC (eB dIx (eV 0) (eC (.int 2))) (aC (eV 1) aN)))))) ::
  []))))))
  (sRet (eCall pr [] (aC (eV 2) (aC (eCall self [] (aC (eB dIx (eV 0) (eC (.int 1))) (aC (eV 1) aN))) (aC (eCall self [] (aC (eB dIx (eV 0) (eC (.int 2))) (aC (eV 1) aN))) aN)))))))
abbrev encV (vs : List Int) : D := .tup (vs.map D.int)
theorem ixv {vs : List Int} {i : Nat} {M : Mem} (h : i < vs.length) : dIx (encV vs) (.int (i : Nat)) M = .ok (.int (vs.getD i 0)) M := ix_tup (by rw [List.getElem?_map, List.getD_eq_getElem?_getD, List.getElem?_eq_getElem h]; rfl)
/-- a reading of e by f -/
def Tells (f : Fn) (vs : List Int) (e : Ex) : Prop := ∀ M : Mem, f [e.enc, encV vs] M = .ok (.int (e.val vs)) M
theorem whole_step {f self pr : Fn} (hp : IsPaired pr) (h : ∀ d e M, f [d, e] M = retF (L_whole self pr [some d, some e, none] M)) {B : Nat} {vs : List Int} (hl : 3 ≤ vs.length) (hv : ∀ v ∈ vs, Rg B v) (h10 : 10 ≤ B) (hB : B ≤ 9000) {e : Ex} (ho : e.ok) (hops : e.ops ≤ 50)
    (ih : ∀ a ∈ e.kids, Tells self vs a) : Tells f vs e := fun M => by
  rw [h]
  have q (s t : Str) (b : Bool) (z : (s == t) = b) : ∀ M, dEq (.str s) (.str t) M = .ok (.bl b) M := fun M => by rw [eq_str, z]
  cases e with
  | var i => simp only [L_whole, Ex.enc, bind_ok, bind_ex, outE_ok, outE_ex, retF_nx, retF_rt, retF_xc, x_optR, x_eV, x_eC, x_kB, x_eB, x_eU, x_eF, x_kM, x_eM, x_ift, x_iff, x_eIf, x_kTup, x_kLst, x_eTup, x_eLst, x_aN, x_kCc, x_kC, x_aC, x_tV, x_kCn, x_kCm, x_tCm, x_okB, x_tA, x_tO, x_kN, x_tN, x_tCh, x_kCj, x_kCi, x_kCh, x_eCh, x_kNb, x_kAn, x_kOr, x_kNo, x_eAnd, x_eOr, x_eNot, x_kCl, x_eCall, x_kS2, x_kS1, x_eSl, x_oN, x_asO, x_oS, x_mLoc, x_kML, x_eML, x_kM0, x_kMl0, x_eML0, x_truB, x_truI, x_asB, x_cnx, x_crt, x_cbk, x_cct, x_cxc, x_sSeq, x_sNil, x_sBrk, x_sCnt, x_kEx, x_kSet, x_sEx, x_sSet, x_okO, x_putsN, x_putsC, x_kPar, x_sPar, x_kRet, x_sRet, x_sRetN, x_sIf, x_kSb3, x_kSb2, x_kSb1, x_sSub, x_kAsg, x_sAsg, x_pnm, x_ptp, x_kFor, x_sFor, x_itT, x_iR1, x_kR2, x_iR2, x_iE, x_tY, x_wN, x_wC, List.getElem?_cons_zero, List.getElem?_cons_succ, List.set_cons_zero, List.set_cons_succ, List.append_nil, List.nil_append, List.cons_append, List.length_cons, List.length_nil, Nat.reduceLeDiff, Nat.reduceAdd, Bool.not_true, Bool.not_false, T_ok, x_kMt, x_sMt, x_mtN, x_mtC, x_sWh, true_or, true_and, and_true, if_true, if_false, ixa, q "var" "var" true rfl, ixb, ixv (vs := vs) (i := i) (Nat.lt_of_lt_of_le ho hl), Ex.val]
  | num n => simp only [L_whole, Ex.enc, bind_ok, bind_ex, outE_ok, outE_ex, retF_nx, retF_rt, retF_xc, x_optR, x_eV, x_eC, x_kB, x_eB, x_eU, x_eF, x_kM, x_eM, x_ift, x_iff, x_eIf, x_kTup, x_kLst, x_eTup, x_eLst, x_aN, x_kCc, x_kC, x_aC, x_tV, x_kCn, x_kCm, x_tCm, x_okB, x_tA, x_tO, x_kN, x_tN, x_tCh, x_kCj, x_kCi, x_kCh, x_eCh, x_kNb, x_kAn, x_kOr, x_kNo, x_eAnd, x_eOr, x_eNot, x_kCl, x_eCall, x_kS2, x_kS1, x_eSl, x_oN, x_asO, x_oS, x_mLoc, x_kML, x_eML, x_kM0, x_kMl0, x_eML0, x_truB, x_truI, x_asB, x_cnx, x_crt, x_cbk, x_cct, x_cxc, x_sSeq, x_sNil, x_sBrk, x_sCnt, x_kEx, x_kSet, x_sEx, x_sSet, x_okO, x_putsN, x_putsC, x_kPar, x_sPar, x_kRet, x_sRet, x_sRetN, x_sIf, x_kSb3, x_kSb2, x_kSb1, x_sSub, x_kAsg, x_sAsg, x_pnm, x_ptp, x_kFor, x_sFor, x_itT, x_iR1, x_kR2, x_iR2, x_iE, x_tY, x_wN, x_wC, List.getElem?_cons_zero, List.getElem?_cons_succ, List.set_cons_zero, List.set_cons_succ, List.append_nil, List.nil_append, List.cons_append, List.length_cons, List.length_nil, Nat.reduceLeDiff, Nat.reduceAdd, Bool.not_true, Bool.not_false, T_ok, x_kMt, x_sMt, x_mtN, x_mtC, x_sWh, true_or, true_and, and_true, if_true, if_false, ixa, q "number" "var" false rfl, q "number" "number" true rfl, ixb, Ex.val]
  | not a =>
    have i1 : ∀ M, self [a.enc, encV vs] M = .ok (.int (a.val vs)) M := ih a (by simp [Ex.kids])
    simp only [L_whole, Ex.enc, bind_ok, bind_ex, outE_ok, outE_ex, retF_nx, retF_rt, retF_xc, x_optR, x_eV, x_eC, x_kB, x_eB, x_eU, x_eF, x_kM, x_eM, x_ift, x_iff, x_eIf, x_kTup, x_kLst, x_eTup, x_eLst, x_aN, x_kCc, x_kC, x_aC, x_tV, x_kCn, x_kCm, x_tCm, x_okB, x_tA, x_tO, x_kN, x_tN, x_tCh, x_kCj, x_kCi, x_kCh, x_eCh, x_kNb, x_kAn, x_kOr, x_kNo, x_eAnd, x_eOr, x_eNot, x_kCl, x_eCall, x_kS2, x_kS1, x_eSl, x_oN, x_asO, x_oS, x_mLoc, x_kML, x_eML, x_kM0, x_kMl0, x_eML0, x_truB, x_truI, x_asB, x_cnx, x_crt, x_cbk, x_cct, x_cxc, x_sSeq, x_sNil, x_sBrk, x_sCnt, x_kEx, x_kSet, x_sEx, x_sSet, x_okO, x_putsN, x_putsC, x_kPar, x_sPar, x_kRet, x_sRet, x_sRetN, x_sIf, x_kSb3, x_kSb2, x_kSb1, x_sSub, x_kAsg, x_sAsg, x_pnm, x_ptp, x_kFor, x_sFor, x_itT, x_iR1, x_kR2, x_iR2, x_iE, x_tY, x_wN, x_wC, List.getElem?_cons_zero, List.getElem?_cons_succ, List.set_cons_zero, List.set_cons_succ, List.append_nil, List.nil_append, List.cons_append, List.length_cons, List.length_nil, Nat.reduceLeDiff, Nat.reduceAdd, Bool.not_true, Bool.not_false, T_ok, x_kMt, x_sMt, x_mtN, x_mtC, x_sWh, true_or, true_and, and_true, if_true, if_false, ixa, q "not" "var" false rfl, q "not" "number" false rfl, q "not" "not" true rfl, ixb, i1, dNeg, dSub, Ex.val]
  | bin o a b =>
    have i1 : ∀ M, self [a.enc, encV vs] M = .ok (.int (a.val vs)) M := ih a (by simp [Ex.kids])
    have i2 : ∀ M, self [b.enc, encV vs] M = .ok (.int (b.val vs)) M := ih b (by simp [Ex.kids])
    have r (t : Str) (z : (o.word == t) = false) : ∀ M, dEq (.str o.word) (.str t) M = .ok (.bl false) M := fun M => by rw [eq_str, z]
    simp only [L_whole, Ex.enc, bind_ok, bind_ex, outE_ok, outE_ex, retF_nx, retF_rt, retF_xc, x_optR, x_eV, x_eC, x_kB, x_eB, x_eU, x_eF, x_kM, x_eM, x_ift, x_iff, x_eIf, x_kTup, x_kLst, x_eTup, x_eLst, x_aN, x_kCc, x_kC, x_aC, x_tV, x_kCn, x_kCm, x_tCm, x_okB, x_tA, x_tO, x_kN, x_tN, x_tCh, x_kCj, x_kCi, x_kCh, x_eCh, x_kNb, x_kAn, x_kOr, x_kNo, x_eAnd, x_eOr, x_eNot, x_kCl, x_eCall, x_kS2, x_kS1, x_eSl, x_oN, x_asO, x_oS, x_mLoc, x_kML, x_eML, x_kM0, x_kMl0, x_eML0, x_truB, x_truI, x_asB, x_cnx, x_crt, x_cbk, x_cct, x_cxc, x_sSeq, x_sNil, x_sBrk, x_sCnt, x_kEx, x_kSet, x_sEx, x_sSet, x_okO, x_putsN, x_putsC, x_kPar, x_sPar, x_kRet, x_sRet, x_sRetN, x_sIf, x_kSb3, x_kSb2, x_kSb1, x_sSub, x_kAsg, x_sAsg, x_pnm, x_ptp, x_kFor, x_sFor, x_itT, x_iR1, x_kR2, x_iR2, x_iE, x_tY, x_wN, x_wC, List.getElem?_cons_zero, List.getElem?_cons_succ, List.set_cons_zero, List.set_cons_succ, List.append_nil, List.nil_append, List.cons_append, List.length_cons, List.length_nil, Nat.reduceLeDiff, Nat.reduceAdd, Bool.not_true, Bool.not_false, T_ok, x_kMt, x_sMt, x_mtN, x_mtC, x_sWh, true_or, true_and, and_true, if_true, if_false, ixa, r "var" (by cases o <;> rfl), r "number" (by cases o <;> rfl), r "not" (by cases o <;> rfl), r "shift" (by cases o <;> rfl), r "times" (by cases o <;> rfl), ixb, ixc, i1, i2, hp (o := o), Ex.val]
  | shift a k =>
    have i1 : ∀ M, self [a.enc, encV vs] M = .ok (.int (a.val vs)) M := ih a (by simp [Ex.kids])
    have hr := (a.rg hv h10 ho.1).abs1
    have hk := ho.2.2
    simp only [Ex.ops] at hops
    simp only [L_whole, Ex.enc, bind_ok, bind_ex, outE_ok, outE_ex, retF_nx, retF_rt, retF_xc, x_optR, x_eV, x_eC, x_kB, x_eB, x_eU, x_eF, x_kM, x_eM, x_ift, x_iff, x_eIf, x_kTup, x_kLst, x_eTup, x_eLst, x_aN, x_kCc, x_kC, x_aC, x_tV, x_kCn, x_kCm, x_tCm, x_okB, x_tA, x_tO, x_kN, x_tN, x_tCh, x_kCj, x_kCi, x_kCh, x_eCh, x_kNb, x_kAn, x_kOr, x_kNo, x_eAnd, x_eOr, x_eNot, x_kCl, x_eCall, x_kS2, x_kS1, x_eSl, x_oN, x_asO, x_oS, x_mLoc, x_kML, x_eML, x_kM0, x_kMl0, x_eML0, x_truB, x_truI, x_asB, x_cnx, x_crt, x_cbk, x_cct, x_cxc, x_sSeq, x_sNil, x_sBrk, x_sCnt, x_kEx, x_kSet, x_sEx, x_sSet, x_okO, x_putsN, x_putsC, x_kPar, x_sPar, x_kRet, x_sRet, x_sRetN, x_sIf, x_kSb3, x_kSb2, x_kSb1, x_sSub, x_kAsg, x_sAsg, x_pnm, x_ptp, x_kFor, x_sFor, x_itT, x_iR1, x_kR2, x_iR2, x_iE, x_tY, x_wN, x_wC, List.getElem?_cons_zero, List.getElem?_cons_succ, List.set_cons_zero, List.set_cons_succ, List.append_nil, List.nil_append, List.cons_append, List.length_cons, List.length_nil, Nat.reduceLeDiff, Nat.reduceAdd, Bool.not_true, Bool.not_false, T_ok, x_kMt, x_sMt, x_mtN, x_mtC, x_sWh, true_or, true_and, and_true, if_true, if_false, ixa, q "shift" "var" false rfl, q "shift" "number" false rfl, q "shift" "not" false rfl, q "shift" "shift" true rfl, ixb, ixc, i1, fun M => @shl_ok _ k M _ hr (by omega) (by omega), Ex.val]
  | times n a =>
    have i1 : ∀ M, self [a.enc, encV vs] M = .ok (.int (a.val vs)) M := ih a (by simp [Ex.kids])
    have hr := (a.rg hv h10 ho.2).abs1
    have hn : n.natAbs < 2 ^ 4 := by have := ho.1; omega
    simp only [Ex.ops] at hops
    simp only [L_whole, Ex.enc, bind_ok, bind_ex, outE_ok, outE_ex, retF_nx, retF_rt, retF_xc, x_optR, x_eV, x_eC, x_kB, x_eB, x_eU, x_eF, x_kM, x_eM, x_ift, x_iff, x_eIf, x_kTup, x_kLst, x_eTup, x_eLst, x_aN, x_kCc, x_kC, x_aC, x_tV, x_kCn, x_kCm, x_tCm, x_okB, x_tA, x_tO, x_kN, x_tN, x_tCh, x_kCj, x_kCi, x_kCh, x_eCh, x_kNb, x_kAn, x_kOr, x_kNo, x_eAnd, x_eOr, x_eNot, x_kCl, x_eCall, x_kS2, x_kS1, x_eSl, x_oN, x_asO, x_oS, x_mLoc, x_kML, x_eML, x_kM0, x_kMl0, x_eML0, x_truB, x_truI, x_asB, x_cnx, x_crt, x_cbk, x_cct, x_cxc, x_sSeq, x_sNil, x_sBrk, x_sCnt, x_kEx, x_kSet, x_sEx, x_sSet, x_okO, x_putsN, x_putsC, x_kPar, x_sPar, x_kRet, x_sRet, x_sRetN, x_sIf, x_kSb3, x_kSb2, x_kSb1, x_sSub, x_kAsg, x_sAsg, x_pnm, x_ptp, x_kFor, x_sFor, x_itT, x_iR1, x_kR2, x_iR2, x_iE, x_tY, x_wN, x_wC, List.getElem?_cons_zero, List.getElem?_cons_succ, List.set_cons_zero, List.set_cons_succ, List.append_nil, List.nil_append, List.cons_append, List.length_cons, List.length_nil, Nat.reduceLeDiff, Nat.reduceAdd, Bool.not_true, Bool.not_false, T_ok, x_kMt, x_sMt, x_mtN, x_mtC, x_sWh, true_or, true_and, and_true, if_true, if_false, ixa, q "times" "var" false rfl, q "times" "number" false rfl, q "times" "not" false rfl, q "times" "shift" false rfl, q "times" "times" true rfl, ixb, ixc, i1, fun M => @mul_ok n _ M 4 _ hn hr (by omega) (by omega) (by omega), Ex.val]
/-- the worth by calls as deep as the form -/
theorem tells_run {run : Nat → Nat → Fn} {i j d : Nat} {vs : List Int} {B : Nat} (hp : ∀ k, IsPaired (run (k + d) j)) (h : ∀ k d e M, run (k + 1) i [d, e] M = retF (L_whole (run k i) (run k j) [some d, some e, none] M)) (hl : 3 ≤ vs.length) (hv : ∀ v ∈ vs, Rg B v) (h10 : 10 ≤ B) (hB : B ≤ 9000) :
    ∀ (n : Nat) (e : Ex) (k : Nat), e.ok → e.ops ≤ n → n ≤ 50 → Tells (run (k + n + d + 1) i) vs e
  | 0, e, k, ho, hn, h50 => whole_step (self := run (k + 0 + d) i) (pr := run (k + 0 + d) j) (hp _) (h _) hl hv h10 hB ho (by omega) (fun a ha => by
      exfalso
      have := ops_kids e
      cases e <;> simp [Ex.kids] at ha <;> simp [Ex.kids] at this <;> omega)
  | n + 1, e, k, ho, hn, h50 => whole_step (self := run (k + (n + 1) + d) i) (pr := run (k + (n + 1) + d) j) (hp _) (h _) hl hv h10 hB ho (by omega) (fun a ha => by
      have h1 := ops_kids e
      have h2 := ops_mem ha
      have h3 : e.kids.isEmpty = false := by
        cases q : e.kids with
        | nil => rw [q] at ha; cases ha
        | cons _ _ => rfl
      rw [h3] at h1
      have := tells_run hp h hl hv h10 hB n a k (ok_kids ho a ha) (by simp at h1; omega) (by omega)
      rw [show k + (n + 1) + d = k + n + d + 1 by omega]
      exact this)
def L_worth (self two : Fn) : LS :=
  (sSeq (sSet 2 (eB dIx (eV 0) (eC (.int 0))))
  (sSeq (sIf ((tO (tCm dEq (eV 2) (eC (.str "var"))) (tCm dEq (eV 2) (eC (.str "number")))))
  (sRet (eIf (tCm dEq (eV 2) (eC (.str "var"))) (eB dIx (eV 1) (eB dIx (eV 0) (eC (.int 1)))) (eB dIx (eV 0) (eC (.int 1)))))
  sNil)
  (sSeq (sIf (tCm dEq (eV 2) (eC (.str "not")))
  (sRet (eB dSub (eB dSub (eC (.int 0)) (eCall self [] (aC (eB dIx (eV 0) (eC (.int 1))) (aC (eV 1) aN)))) (eC (.int 1))))
  sNil)
  (sSeq (sIf (tCm dEq (eV 2) (eC (.str "shift")))
  (sRet (eB dMul (eCall self [] (aC (eB dIx (eV 0) (eC (.int 1))) (aC (eV 1) aN))) (eCall two [] (aC (eB dIx (eV 0) (eC (.int 2))) aN))))
  sNil)
  (sSeq (sIf (tCm dEq (eV 2) (eC (.str "times")))
  (sRet (eB dMul (eB dIx (eV 0) (eC (.int 1))) (eCall self [] (aC (eB dIx (eV 0) (eC (.int 2))) (aC (eV 1) aN)))))
  sNil)
  (sSeq (sPar [3, 4] (aC (eCall self [] (aC (eB dIx (eV 0) (eC (.int 1))) (aC (eV 1) aN))) (aC (eCall self [] (aC (eB dIx (eV 0) (eC (.int 2))) (aC (eV 1) aN))) aN)))
  (sSeq (sIf ((tO (tCm dEq (eV 2) (eC (.str "plus"))) (tCm dEq (eV 2) (eC (.str "minus")))))
  (sRet (eIf (tCm dEq (eV 2) (eC (.str "plus"))) (eB dAdd (eV 3) (eV 4)) (eB dSub (eV 3) (eV 4))))
  sNil)
  (sRet (eIf (tCm dEq (eV 2) (eC (.str "and"))) (eB (dI Builtin.bitAnd) (eV 3) (eV 4)) (eIf (tCm dEq (eV 2) (eC (.str "or"))) (eB (dI Builtin.bitOr) (eV 3) (eV 4)) (eB (dI Builtin.bitXor) (eV 3) (eV 4))))))))))))
theorem worth_step {f self two : Fn} (h2 : IsTwo two) (h : ∀ d e M, f [d, e] M = retF (L_worth self two [some d, some e, none, none, none] M)) {B : Nat} {vs : List Int} (hl : 3 ≤ vs.length) (hv : ∀ v ∈ vs, Rg B v) (h10 : 10 ≤ B) (hB : B ≤ 9000) {e : Ex} (ho : e.ok) (hops : e.ops ≤ 50)
    (ih : ∀ a ∈ e.kids, Tells self vs a) : Tells f vs e := fun M => by
  rw [h]
  have q (s t : Str) (b : Bool) (z : (s == t) = b) : ∀ M, dEq (.str s) (.str t) M = .ok (.bl b) M := fun M => by rw [eq_str, z]
  cases e with
  | var i => simp only [L_worth, Ex.enc, bind_ok, bind_ex, outE_ok, outE_ex, retF_nx, retF_rt, retF_xc, x_optR, x_eV, x_eC, x_kB, x_eB, x_eU, x_eF, x_kM, x_eM, x_ift, x_iff, x_eIf, x_kTup, x_kLst, x_eTup, x_eLst, x_aN, x_kCc, x_kC, x_aC, x_tV, x_kCn, x_kCm, x_tCm, x_okB, x_tA, x_tO, x_kN, x_tN, x_tCh, x_kCj, x_kCi, x_kCh, x_eCh, x_kNb, x_kAn, x_kOr, x_kNo, x_eAnd, x_eOr, x_eNot, x_kCl, x_eCall, x_kS2, x_kS1, x_eSl, x_oN, x_asO, x_oS, x_mLoc, x_kML, x_eML, x_kM0, x_kMl0, x_eML0, x_truB, x_truI, x_asB, x_cnx, x_crt, x_cbk, x_cct, x_cxc, x_sSeq, x_sNil, x_sBrk, x_sCnt, x_kEx, x_kSet, x_sEx, x_sSet, x_okO, x_putsN, x_putsC, x_kPar, x_sPar, x_kRet, x_sRet, x_sRetN, x_sIf, x_kSb3, x_kSb2, x_kSb1, x_sSub, x_kAsg, x_sAsg, x_pnm, x_ptp, x_kFor, x_sFor, x_itT, x_iR1, x_kR2, x_iR2, x_iE, x_tY, x_wN, x_wC, List.getElem?_cons_zero, List.getElem?_cons_succ, List.set_cons_zero, List.set_cons_succ, List.append_nil, List.nil_append, List.cons_append, List.length_cons, List.length_nil, Nat.reduceLeDiff, Nat.reduceAdd, Bool.not_true, Bool.not_false, T_ok, x_kMt, x_sMt, x_mtN, x_mtC, x_sWh, true_or, true_and, and_true, if_true, if_false, ixa, q "var" "var" true rfl, ixb, ixv (vs := vs) (i := i) (Nat.lt_of_lt_of_le ho hl), Ex.val]
  | num n => simp only [L_worth, Ex.enc, bind_ok, bind_ex, outE_ok, outE_ex, retF_nx, retF_rt, retF_xc, x_optR, x_eV, x_eC, x_kB, x_eB, x_eU, x_eF, x_kM, x_eM, x_ift, x_iff, x_eIf, x_kTup, x_kLst, x_eTup, x_eLst, x_aN, x_kCc, x_kC, x_aC, x_tV, x_kCn, x_kCm, x_tCm, x_okB, x_tA, x_tO, x_kN, x_tN, x_tCh, x_kCj, x_kCi, x_kCh, x_eCh, x_kNb, x_kAn, x_kOr, x_kNo, x_eAnd, x_eOr, x_eNot, x_kCl, x_eCall, x_kS2, x_kS1, x_eSl, x_oN, x_asO, x_oS, x_mLoc, x_kML, x_eML, x_kM0, x_kMl0, x_eML0, x_truB, x_truI, x_asB, x_cnx, x_crt, x_cbk, x_cct, x_cxc, x_sSeq, x_sNil, x_sBrk, x_sCnt, x_kEx, x_kSet, x_sEx, x_sSet, x_okO, x_putsN, x_putsC, x_kPar, x_sPar, x_kRet, x_sRet, x_sRetN, x_sIf, x_kSb3, x_kSb2, x_kSb1, x_sSub, x_kAsg, x_sAsg, x_pnm, x_ptp, x_kFor, x_sFor, x_itT, x_iR1, x_kR2, x_iR2, x_iE, x_tY, x_wN, x_wC, List.getElem?_cons_zero, List.getElem?_cons_succ, List.set_cons_zero, List.set_cons_succ, List.append_nil, List.nil_append, List.cons_append, List.length_cons, List.length_nil, Nat.reduceLeDiff, Nat.reduceAdd, Bool.not_true, Bool.not_false, T_ok, x_kMt, x_sMt, x_mtN, x_mtC, x_sWh, true_or, true_and, and_true, if_true, if_false, ixa, q "number" "var" false rfl, q "number" "number" true rfl, ixb, Ex.val]
  | not a =>
    have i1 : ∀ M, self [a.enc, encV vs] M = .ok (.int (a.val vs)) M := ih a (by simp [Ex.kids])
    have z : 0 - a.val vs - 1 = -1 - a.val vs := by omega
    simp only [L_worth, Ex.enc, bind_ok, bind_ex, outE_ok, outE_ex, retF_nx, retF_rt, retF_xc, x_optR, x_eV, x_eC, x_kB, x_eB, x_eU, x_eF, x_kM, x_eM, x_ift, x_iff, x_eIf, x_kTup, x_kLst, x_eTup, x_eLst, x_aN, x_kCc, x_kC, x_aC, x_tV, x_kCn, x_kCm, x_tCm, x_okB, x_tA, x_tO, x_kN, x_tN, x_tCh, x_kCj, x_kCi, x_kCh, x_eCh, x_kNb, x_kAn, x_kOr, x_kNo, x_eAnd, x_eOr, x_eNot, x_kCl, x_eCall, x_kS2, x_kS1, x_eSl, x_oN, x_asO, x_oS, x_mLoc, x_kML, x_eML, x_kM0, x_kMl0, x_eML0, x_truB, x_truI, x_asB, x_cnx, x_crt, x_cbk, x_cct, x_cxc, x_sSeq, x_sNil, x_sBrk, x_sCnt, x_kEx, x_kSet, x_sEx, x_sSet, x_okO, x_putsN, x_putsC, x_kPar, x_sPar, x_kRet, x_sRet, x_sRetN, x_sIf, x_kSb3, x_kSb2, x_kSb1, x_sSub, x_kAsg, x_sAsg, x_pnm, x_ptp, x_kFor, x_sFor, x_itT, x_iR1, x_kR2, x_iR2, x_iE, x_tY, x_wN, x_wC, List.getElem?_cons_zero, List.getElem?_cons_succ, List.set_cons_zero, List.set_cons_succ, List.append_nil, List.nil_append, List.cons_append, List.length_cons, List.length_nil, Nat.reduceLeDiff, Nat.reduceAdd, Bool.not_true, Bool.not_false, T_ok, x_kMt, x_sMt, x_mtN, x_mtC, x_sWh, true_or, true_and, and_true, if_true, if_false, ixa, q "not" "var" false rfl, q "not" "number" false rfl, q "not" "not" true rfl, ixb, i1, dSub, Ex.val, z]
  | bin o a b =>
    have i1 : ∀ M, self [a.enc, encV vs] M = .ok (.int (a.val vs)) M := ih a (by simp [Ex.kids])
    have i2 : ∀ M, self [b.enc, encV vs] M = .ok (.int (b.val vs)) M := ih b (by simp [Ex.kids])
    have r (t : Str) (z : (o.word == t) = false) : ∀ M, dEq (.str o.word) (.str t) M = .ok (.bl false) M := fun M => by rw [eq_str, z]
    have s (t : Str) (b : Bool) (z : (o.word == t) = b) : ∀ M, dEq (.str o.word) (.str t) M = .ok (.bl b) M := fun M => by rw [eq_str, z]
    simp only [L_worth, Ex.enc, bind_ok, bind_ex, outE_ok, outE_ex, retF_nx, retF_rt, retF_xc, x_optR, x_eV, x_eC, x_kB, x_eB, x_eU, x_eF, x_kM, x_eM, x_ift, x_iff, x_eIf, x_kTup, x_kLst, x_eTup, x_eLst, x_aN, x_kCc, x_kC, x_aC, x_tV, x_kCn, x_kCm, x_tCm, x_okB, x_tA, x_tO, x_kN, x_tN, x_tCh, x_kCj, x_kCi, x_kCh, x_eCh, x_kNb, x_kAn, x_kOr, x_kNo, x_eAnd, x_eOr, x_eNot, x_kCl, x_eCall, x_kS2, x_kS1, x_eSl, x_oN, x_asO, x_oS, x_mLoc, x_kML, x_eML, x_kM0, x_kMl0, x_eML0, x_truB, x_truI, x_asB, x_cnx, x_crt, x_cbk, x_cct, x_cxc, x_sSeq, x_sNil, x_sBrk, x_sCnt, x_kEx, x_kSet, x_sEx, x_sSet, x_okO, x_putsN, x_putsC, x_kPar, x_sPar, x_kRet, x_sRet, x_sRetN, x_sIf, x_kSb3, x_kSb2, x_kSb1, x_sSub, x_kAsg, x_sAsg, x_pnm, x_ptp, x_kFor, x_sFor, x_itT, x_iR1, x_kR2, x_iR2, x_iE, x_tY, x_wN, x_wC, List.getElem?_cons_zero, List.getElem?_cons_succ, List.set_cons_zero, List.set_cons_succ, List.append_nil, List.nil_append, List.cons_append, List.length_cons, List.length_nil, Nat.reduceLeDiff, Nat.reduceAdd, Bool.not_true, Bool.not_false, T_ok, x_kMt, x_sMt, x_mtN, x_mtC, x_sWh, true_or, true_and, and_true, if_true, if_false, ixa, r "var" (by cases o <;> rfl), r "number" (by cases o <;> rfl), r "not" (by cases o <;> rfl), r "shift" (by cases o <;> rfl), r "times" (by cases o <;> rfl), ixb, ixc, i1, i2, Ex.val]
    cases o with
    | and => simp only [bind_ok, bind_ex, outE_ok, outE_ex, retF_nx, retF_rt, retF_xc, x_optR, x_eV, x_eC, x_kB, x_eB, x_eU, x_eF, x_kM, x_eM, x_ift, x_iff, x_eIf, x_kTup, x_kLst, x_eTup, x_eLst, x_aN, x_kCc, x_kC, x_aC, x_tV, x_kCn, x_kCm, x_tCm, x_okB, x_tA, x_tO, x_kN, x_tN, x_tCh, x_kCj, x_kCi, x_kCh, x_eCh, x_kNb, x_kAn, x_kOr, x_kNo, x_eAnd, x_eOr, x_eNot, x_kCl, x_eCall, x_kS2, x_kS1, x_eSl, x_oN, x_asO, x_oS, x_mLoc, x_kML, x_eML, x_kM0, x_kMl0, x_eML0, x_truB, x_truI, x_asB, x_cnx, x_crt, x_cbk, x_cct, x_cxc, x_sSeq, x_sNil, x_sBrk, x_sCnt, x_kEx, x_kSet, x_sEx, x_sSet, x_okO, x_putsN, x_putsC, x_kPar, x_sPar, x_kRet, x_sRet, x_sRetN, x_sIf, x_kSb3, x_kSb2, x_kSb1, x_sSub, x_kAsg, x_sAsg, x_pnm, x_ptp, x_kFor, x_sFor, x_itT, x_iR1, x_kR2, x_iR2, x_iE, x_tY, x_wN, x_wC, List.getElem?_cons_zero, List.getElem?_cons_succ, List.set_cons_zero, List.set_cons_succ, List.append_nil, List.nil_append, List.cons_append, List.length_cons, List.length_nil, Nat.reduceLeDiff, Nat.reduceAdd, Bool.not_true, Bool.not_false, T_ok, x_kMt, x_sMt, x_mtN, x_mtC, x_sWh, true_or, true_and, and_true, if_true, if_false, s "plus" false rfl, s "minus" false rfl, s "and" true rfl, dI, Op.val]
    | or => simp only [bind_ok, bind_ex, outE_ok, outE_ex, retF_nx, retF_rt, retF_xc, x_optR, x_eV, x_eC, x_kB, x_eB, x_eU, x_eF, x_kM, x_eM, x_ift, x_iff, x_eIf, x_kTup, x_kLst, x_eTup, x_eLst, x_aN, x_kCc, x_kC, x_aC, x_tV, x_kCn, x_kCm, x_tCm, x_okB, x_tA, x_tO, x_kN, x_tN, x_tCh, x_kCj, x_kCi, x_kCh, x_eCh, x_kNb, x_kAn, x_kOr, x_kNo, x_eAnd, x_eOr, x_eNot, x_kCl, x_eCall, x_kS2, x_kS1, x_eSl, x_oN, x_asO, x_oS, x_mLoc, x_kML, x_eML, x_kM0, x_kMl0, x_eML0, x_truB, x_truI, x_asB, x_cnx, x_crt, x_cbk, x_cct, x_cxc, x_sSeq, x_sNil, x_sBrk, x_sCnt, x_kEx, x_kSet, x_sEx, x_sSet, x_okO, x_putsN, x_putsC, x_kPar, x_sPar, x_kRet, x_sRet, x_sRetN, x_sIf, x_kSb3, x_kSb2, x_kSb1, x_sSub, x_kAsg, x_sAsg, x_pnm, x_ptp, x_kFor, x_sFor, x_itT, x_iR1, x_kR2, x_iR2, x_iE, x_tY, x_wN, x_wC, List.getElem?_cons_zero, List.getElem?_cons_succ, List.set_cons_zero, List.set_cons_succ, List.append_nil, List.nil_append, List.cons_append, List.length_cons, List.length_nil, Nat.reduceLeDiff, Nat.reduceAdd, Bool.not_true, Bool.not_false, T_ok, x_kMt, x_sMt, x_mtN, x_mtC, x_sWh, true_or, true_and, and_true, if_true, if_false, s "plus" false rfl, s "minus" false rfl, s "and" false rfl, s "or" true rfl, dI, Op.val]
    | xor => simp only [bind_ok, bind_ex, outE_ok, outE_ex, retF_nx, retF_rt, retF_xc, x_optR, x_eV, x_eC, x_kB, x_eB, x_eU, x_eF, x_kM, x_eM, x_ift, x_iff, x_eIf, x_kTup, x_kLst, x_eTup, x_eLst, x_aN, x_kCc, x_kC, x_aC, x_tV, x_kCn, x_kCm, x_tCm, x_okB, x_tA, x_tO, x_kN, x_tN, x_tCh, x_kCj, x_kCi, x_kCh, x_eCh, x_kNb, x_kAn, x_kOr, x_kNo, x_eAnd, x_eOr, x_eNot, x_kCl, x_eCall, x_kS2, x_kS1, x_eSl, x_oN, x_asO, x_oS, x_mLoc, x_kML, x_eML, x_kM0, x_kMl0, x_eML0, x_truB, x_truI, x_asB, x_cnx, x_crt, x_cbk, x_cct, x_cxc, x_sSeq, x_sNil, x_sBrk, x_sCnt, x_kEx, x_kSet, x_sEx, x_sSet, x_okO, x_putsN, x_putsC, x_kPar, x_sPar, x_kRet, x_sRet, x_sRetN, x_sIf, x_kSb3, x_kSb2, x_kSb1, x_sSub, x_kAsg, x_sAsg, x_pnm, x_ptp, x_kFor, x_sFor, x_itT, x_iR1, x_kR2, x_iR2, x_iE, x_tY, x_wN, x_wC, List.getElem?_cons_zero, List.getElem?_cons_succ, List.set_cons_zero, List.set_cons_succ, List.append_nil, List.nil_append, List.cons_append, List.length_cons, List.length_nil, Nat.reduceLeDiff, Nat.reduceAdd, Bool.not_true, Bool.not_false, T_ok, x_kMt, x_sMt, x_mtN, x_mtC, x_sWh, true_or, true_and, and_true, if_true, if_false, s "plus" false rfl, s "minus" false rfl, s "and" false rfl, s "or" false rfl, dI, Op.val]
    | plus => simp only [bind_ok, bind_ex, outE_ok, outE_ex, retF_nx, retF_rt, retF_xc, x_optR, x_eV, x_eC, x_kB, x_eB, x_eU, x_eF, x_kM, x_eM, x_ift, x_iff, x_eIf, x_kTup, x_kLst, x_eTup, x_eLst, x_aN, x_kCc, x_kC, x_aC, x_tV, x_kCn, x_kCm, x_tCm, x_okB, x_tA, x_tO, x_kN, x_tN, x_tCh, x_kCj, x_kCi, x_kCh, x_eCh, x_kNb, x_kAn, x_kOr, x_kNo, x_eAnd, x_eOr, x_eNot, x_kCl, x_eCall, x_kS2, x_kS1, x_eSl, x_oN, x_asO, x_oS, x_mLoc, x_kML, x_eML, x_kM0, x_kMl0, x_eML0, x_truB, x_truI, x_asB, x_cnx, x_crt, x_cbk, x_cct, x_cxc, x_sSeq, x_sNil, x_sBrk, x_sCnt, x_kEx, x_kSet, x_sEx, x_sSet, x_okO, x_putsN, x_putsC, x_kPar, x_sPar, x_kRet, x_sRet, x_sRetN, x_sIf, x_kSb3, x_kSb2, x_kSb1, x_sSub, x_kAsg, x_sAsg, x_pnm, x_ptp, x_kFor, x_sFor, x_itT, x_iR1, x_kR2, x_iR2, x_iE, x_tY, x_wN, x_wC, List.getElem?_cons_zero, List.getElem?_cons_succ, List.set_cons_zero, List.set_cons_succ, List.append_nil, List.nil_append, List.cons_append, List.length_cons, List.length_nil, Nat.reduceLeDiff, Nat.reduceAdd, Bool.not_true, Bool.not_false, T_ok, x_kMt, x_sMt, x_mtN, x_mtC, x_sWh, true_or, true_and, and_true, if_true, if_false, s "plus" true rfl, dAdd, Op.val]
    | minus => simp only [bind_ok, bind_ex, outE_ok, outE_ex, retF_nx, retF_rt, retF_xc, x_optR, x_eV, x_eC, x_kB, x_eB, x_eU, x_eF, x_kM, x_eM, x_ift, x_iff, x_eIf, x_kTup, x_kLst, x_eTup, x_eLst, x_aN, x_kCc, x_kC, x_aC, x_tV, x_kCn, x_kCm, x_tCm, x_okB, x_tA, x_tO, x_kN, x_tN, x_tCh, x_kCj, x_kCi, x_kCh, x_eCh, x_kNb, x_kAn, x_kOr, x_kNo, x_eAnd, x_eOr, x_eNot, x_kCl, x_eCall, x_kS2, x_kS1, x_eSl, x_oN, x_asO, x_oS, x_mLoc, x_kML, x_eML, x_kM0, x_kMl0, x_eML0, x_truB, x_truI, x_asB, x_cnx, x_crt, x_cbk, x_cct, x_cxc, x_sSeq, x_sNil, x_sBrk, x_sCnt, x_kEx, x_kSet, x_sEx, x_sSet, x_okO, x_putsN, x_putsC, x_kPar, x_sPar, x_kRet, x_sRet, x_sRetN, x_sIf, x_kSb3, x_kSb2, x_kSb1, x_sSub, x_kAsg, x_sAsg, x_pnm, x_ptp, x_kFor, x_sFor, x_itT, x_iR1, x_kR2, x_iR2, x_iE, x_tY, x_wN, x_wC, List.getElem?_cons_zero, List.getElem?_cons_succ, List.set_cons_zero, List.set_cons_succ, List.append_nil, List.nil_append, List.cons_append, List.length_cons, List.length_nil, Nat.reduceLeDiff, Nat.reduceAdd, Bool.not_true, Bool.not_false, T_ok, x_kMt, x_sMt, x_mtN, x_mtC, x_sWh, true_or, true_and, and_true, if_true, if_false, s "plus" false rfl, s "minus" true rfl, dSub, Op.val]
  | shift a k =>
    have i1 : ∀ M, self [a.enc, encV vs] M = .ok (.int (a.val vs)) M := ih a (by simp [Ex.kids])
    have hr := (a.rg hv h10 ho.1).abs1
    have hk := ho.2.2
    have hkk : ((2 : Int) ^ k).natAbs < 2 ^ 5 := by
      rw [Int.natAbs_pow]
      exact Nat.lt_of_le_of_lt (Nat.pow_le_pow_right (by decide) hk) (by decide)
    simp only [Ex.ops] at hops
    simp only [L_worth, Ex.enc, bind_ok, bind_ex, outE_ok, outE_ex, retF_nx, retF_rt, retF_xc, x_optR, x_eV, x_eC, x_kB, x_eB, x_eU, x_eF, x_kM, x_eM, x_ift, x_iff, x_eIf, x_kTup, x_kLst, x_eTup, x_eLst, x_aN, x_kCc, x_kC, x_aC, x_tV, x_kCn, x_kCm, x_tCm, x_okB, x_tA, x_tO, x_kN, x_tN, x_tCh, x_kCj, x_kCi, x_kCh, x_eCh, x_kNb, x_kAn, x_kOr, x_kNo, x_eAnd, x_eOr, x_eNot, x_kCl, x_eCall, x_kS2, x_kS1, x_eSl, x_oN, x_asO, x_oS, x_mLoc, x_kML, x_eML, x_kM0, x_kMl0, x_eML0, x_truB, x_truI, x_asB, x_cnx, x_crt, x_cbk, x_cct, x_cxc, x_sSeq, x_sNil, x_sBrk, x_sCnt, x_kEx, x_kSet, x_sEx, x_sSet, x_okO, x_putsN, x_putsC, x_kPar, x_sPar, x_kRet, x_sRet, x_sRetN, x_sIf, x_kSb3, x_kSb2, x_kSb1, x_sSub, x_kAsg, x_sAsg, x_pnm, x_ptp, x_kFor, x_sFor, x_itT, x_iR1, x_kR2, x_iR2, x_iE, x_tY, x_wN, x_wC, List.getElem?_cons_zero, List.getElem?_cons_succ, List.set_cons_zero, List.set_cons_succ, List.append_nil, List.nil_append, List.cons_append, List.length_cons, List.length_nil, Nat.reduceLeDiff, Nat.reduceAdd, Bool.not_true, Bool.not_false, T_ok, x_kMt, x_sMt, x_mtN, x_mtC, x_sWh, true_or, true_and, and_true, if_true, if_false, ixa, q "shift" "var" false rfl, q "shift" "number" false rfl, q "shift" "not" false rfl, q "shift" "shift" true rfl, ixb, ixc, i1, h2 (w := k) (by omega), fun M => @mul_ok _ (2 ^ k) M _ 5 hr hkk (by omega) (by omega) (by omega), Ex.val]
  | times n a =>
    have i1 : ∀ M, self [a.enc, encV vs] M = .ok (.int (a.val vs)) M := ih a (by simp [Ex.kids])
    have hr := (a.rg hv h10 ho.2).abs1
    have hn : n.natAbs < 2 ^ 4 := by have := ho.1; omega
    simp only [Ex.ops] at hops
    simp only [L_worth, Ex.enc, bind_ok, bind_ex, outE_ok, outE_ex, retF_nx, retF_rt, retF_xc, x_optR, x_eV, x_eC, x_kB, x_eB, x_eU, x_eF, x_kM, x_eM, x_ift, x_iff, x_eIf, x_kTup, x_kLst, x_eTup, x_eLst, x_aN, x_kCc, x_kC, x_aC, x_tV, x_kCn, x_kCm, x_tCm, x_okB, x_tA, x_tO, x_kN, x_tN, x_tCh, x_kCj, x_kCi, x_kCh, x_eCh, x_kNb, x_kAn, x_kOr, x_kNo, x_eAnd, x_eOr, x_eNot, x_kCl, x_eCall, x_kS2, x_kS1, x_eSl, x_oN, x_asO, x_oS, x_mLoc, x_kML, x_eML, x_kM0, x_kMl0, x_eML0, x_truB, x_truI, x_asB, x_cnx, x_crt, x_cbk, x_cct, x_cxc, x_sSeq, x_sNil, x_sBrk, x_sCnt, x_kEx, x_kSet, x_sEx, x_sSet, x_okO, x_putsN, x_putsC, x_kPar, x_sPar, x_kRet, x_sRet, x_sRetN, x_sIf, x_kSb3, x_kSb2, x_kSb1, x_sSub, x_kAsg, x_sAsg, x_pnm, x_ptp, x_kFor, x_sFor, x_itT, x_iR1, x_kR2, x_iR2, x_iE, x_tY, x_wN, x_wC, List.getElem?_cons_zero, List.getElem?_cons_succ, List.set_cons_zero, List.set_cons_succ, List.append_nil, List.nil_append, List.cons_append, List.length_cons, List.length_nil, Nat.reduceLeDiff, Nat.reduceAdd, Bool.not_true, Bool.not_false, T_ok, x_kMt, x_sMt, x_mtN, x_mtC, x_sWh, true_or, true_and, and_true, if_true, if_false, ixa, q "times" "var" false rfl, q "times" "number" false rfl, q "times" "not" false rfl, q "times" "shift" false rfl, q "times" "times" true rfl, ixb, ixc, i1, fun M => @mul_ok n _ M 4 _ hn hr (by omega) (by omega) (by omega), Ex.val]
theorem worth_run {run : Nat → Nat → Fn} {i j d : Nat} {vs : List Int} {B : Nat} (hp : ∀ k, IsTwo (run (k + d) j)) (h : ∀ k d e M, run (k + 1) i [d, e] M = retF (L_worth (run k i) (run k j) [some d, some e, none, none, none] M)) (hl : 3 ≤ vs.length) (hv : ∀ v ∈ vs, Rg B v) (h10 : 10 ≤ B) (hB : B ≤ 9000) :
    ∀ (n : Nat) (e : Ex) (k : Nat), e.ok → e.ops ≤ n → n ≤ 50 → Tells (run (k + n + d + 1) i) vs e
  | 0, e, k, ho, hn, h50 => worth_step (self := run (k + 0 + d) i) (two := run (k + 0 + d) j) (hp _) (h _) hl hv h10 hB ho (by omega) (fun a ha => by
      exfalso
      have := ops_kids e
      cases e <;> simp [Ex.kids] at ha <;> simp [Ex.kids] at this <;> omega)
  | n + 1, e, k, ho, hn, h50 => worth_step (self := run (k + (n + 1) + d) i) (two := run (k + (n + 1) + d) j) (hp _) (h _) hl hv h10 hB ho (by omega) (fun a ha => by
      have h1 := ops_kids e
      have h2 := ops_mem ha
      have h3 : e.kids.isEmpty = false := by
        cases q : e.kids with
        | nil => rw [q] at ha; cases ha
        | cons _ _ => rfl
      rw [h3] at h1
      have := worth_run hp h hl hv h10 hB n a k (ok_kids ho a ha) (by simp at h1; omega) (by omega)
      rw [show k + (n + 1) + d = k + n + d + 1 by omega]
      exact this)
end G

/-! X4: drawn expressions. -/
namespace G
open PySem L2
def L_leaf (dr pk : Fn) : LS :=
  (sSeq (sIf (tCm (dCmpI fun i j => decide (j < i)) (eCall dr [] (aC (eV 0) (aC (eC (.int 4)) aN))) (eC (.int 0)))
  (sRet (eTup (aC (eC (.str "var")) (aC (eCall dr [] (aC (eV 0) (aC (eC (.int 3)) aN))) aN))))
  sNil)
  (sRet (eTup (aC (eC (.str "number")) (aC (eCall pk [] (aC (eV 0) (aC (eLst (aC (eC (.int 0)) (aC (eC (.int 1)) (aC (eU dNeg (eC (.int 1))) (aC (eC (.int 2)) (aC (eC (.int 3)) (aC (eB dSub (eC (.int 0)) (eV 1)) (aC (eV 1) (aC (eB dSub (eCall dr [] (aC (eV 0) (aC (eB dAdd (eB dMul (eC (.int 2)) (eV 1)) (eC (.int 1))) aN))) (eV 1)) aN))))))))) aN))) aN)))))
def IsLeaf (f : Fn) : Prop := ∀ {t p far : Nat} {M : Mem}, PenAt t p M → t + 3 < 1000000000 → far ≤ 1000 →
  ∃ (e : Ex) (M' : Mem), f [.loc p, .int far] M = .ok e.enc M' ∧ e.ok ∧ e.ops = 0 ∧ PenAt (t + 3) p M' ∧ Kp (N1 p) M M'
theorem isLeaf {f dr pk : Fn} (hd : IsDraw dr) (hp : IsPick pk) (h : ∀ d e M, f [d, e] M = retF (L_leaf dr pk [some d, some e] M)) : IsLeaf f := fun {t p far M} hpen ht hf => by
  obtain ⟨v, M1, e1, a1, b1, c1, d1, l1⟩ := hd (n := 4) 3 hpen (by omega) (by omega) (by decide) (by omega) (by omega)
  rw [h]
  by_cases q : 0 < v
  · obtain ⟨i, M2', e2, a2, b2, c2, d2, l2⟩ := hd (n := 3) 3 c1 (by omega) (by omega) (by decide) (by omega) (by omega)
    obtain ⟨i, rfl⟩ := Int.eq_ofNat_of_zero_le a2
    refine ⟨.var i, M2', ?_, by show i < 3; omega, rfl, c2.mono (by omega), d1.trans d2⟩
    simp only [L_leaf, bind_ok, bind_ex, outE_ok, outE_ex, retF_nx, retF_rt, retF_xc, x_optR, x_eV, x_eC, x_kB, x_eB, x_eU, x_eF, x_kM, x_eM, x_ift, x_iff, x_eIf, x_kTup, x_kLst, x_eTup, x_eLst, x_aN, x_kCc, x_kC, x_aC, x_tV, x_kCn, x_kCm, x_tCm, x_okB, x_tA, x_tO, x_kN, x_tN, x_tCh, x_kCj, x_kCi, x_kCh, x_eCh, x_kNb, x_kAn, x_kOr, x_kNo, x_eAnd, x_eOr, x_eNot, x_kCl, x_eCall, x_kS2, x_kS1, x_eSl, x_oN, x_asO, x_oS, x_mLoc, x_kML, x_eML, x_kM0, x_kMl0, x_eML0, x_truB, x_truI, x_asB, x_cnx, x_crt, x_cbk, x_cct, x_cxc, x_sSeq, x_sNil, x_sBrk, x_sCnt, x_kEx, x_kSet, x_sEx, x_sSet, x_okO, x_putsN, x_putsC, x_kPar, x_sPar, x_kRet, x_sRet, x_sRetN, x_sIf, x_kSb3, x_kSb2, x_kSb1, x_sSub, x_kAsg, x_sAsg, x_pnm, x_ptp, x_kFor, x_sFor, x_itT, x_iR1, x_kR2, x_iR2, x_iE, x_tY, x_wN, x_wC, List.getElem?_cons_zero, List.getElem?_cons_succ, List.set_cons_zero, List.set_cons_succ, List.append_nil, List.nil_append, List.cons_append, List.length_cons, List.length_nil, Nat.reduceLeDiff, Nat.reduceAdd, Bool.not_true, Bool.not_false, T_ok, x_kMt, x_sMt, x_mtN, x_mtC, x_sWh, true_or, true_and, and_true, if_true, if_false, e1, dCmpI, q, decide_true, e2, Ex.enc]
  · obtain ⟨x, M2', e2, a2, b2, c2, d2, l2⟩ := hd (n := 2 * (far : Int) + 1) 12 c1 (by omega) (by omega) (by omega) (by omega) (by omega)
    have hpl := c2.lt
    have hds : ∀ d ∈ [D.int 0, .int 1, .int (-1), .int 2, .int 3, .int (0 - (far : Int)), .int far, .int (x - (far : Int))], ∃ n : Int, d = .int n ∧ -1000 ≤ n ∧ n ≤ 1000 := by
      intro d m
      simp only [List.mem_cons, List.not_mem_nil, or_false] at m
      rcases m with rfl | rfl | rfl | rfl | rfl | rfl | rfl | rfl <;> exact ⟨_, rfl, by omega, by omega⟩
    obtain ⟨d, M3, m3, e3, c3, d3, l3⟩ := hp (q := M2'.length) (M := M2' ++ [.lst [D.int 0, .int 1, .int (-1), .int 2, .int 3, .int (0 - (far : Int)), .int far, .int (x - (far : Int))]]) (c2.kp (S := N0) (Kp.push _ _) id) (by omega) (push_at _ _) (by omega) (by simp) (by simp)
    obtain ⟨n, rfl, n1, n2⟩ := hds d m3
    refine ⟨.num n, M3, ?_, ⟨n1, n2⟩, rfl, c3.mono (by omega), ((d1.trans d2).pushn).trans d3⟩
    simp only [L_leaf, bind_ok, bind_ex, outE_ok, outE_ex, retF_nx, retF_rt, retF_xc, x_optR, x_eV, x_eC, x_kB, x_eB, x_eU, x_eF, x_kM, x_eM, x_ift, x_iff, x_eIf, x_kTup, x_kLst, x_eTup, x_eLst, x_aN, x_kCc, x_kC, x_aC, x_tV, x_kCn, x_kCm, x_tCm, x_okB, x_tA, x_tO, x_kN, x_tN, x_tCh, x_kCj, x_kCi, x_kCh, x_eCh, x_kNb, x_kAn, x_kOr, x_kNo, x_eAnd, x_eOr, x_eNot, x_kCl, x_eCall, x_kS2, x_kS1, x_eSl, x_oN, x_asO, x_oS, x_mLoc, x_kML, x_eML, x_kM0, x_kMl0, x_eML0, x_truB, x_truI, x_asB, x_cnx, x_crt, x_cbk, x_cct, x_cxc, x_sSeq, x_sNil, x_sBrk, x_sCnt, x_kEx, x_kSet, x_sEx, x_sSet, x_okO, x_putsN, x_putsC, x_kPar, x_sPar, x_kRet, x_sRet, x_sRetN, x_sIf, x_kSb3, x_kSb2, x_kSb1, x_sSub, x_kAsg, x_sAsg, x_pnm, x_ptp, x_kFor, x_sFor, x_itT, x_iR1, x_kR2, x_iR2, x_iE, x_tY, x_wN, x_wC, List.getElem?_cons_zero, List.getElem?_cons_succ, List.set_cons_zero, List.set_cons_succ, List.append_nil, List.nil_append, List.cons_append, List.length_cons, List.length_nil, Nat.reduceLeDiff, Nat.reduceAdd, Bool.not_true, Bool.not_false, T_ok, x_kMt, x_sMt, x_mtN, x_mtC, x_sWh, true_or, true_and, and_true, if_true, if_false, e1, dCmpI, q, decide_false, dNeg, dSub, fun M => @mul_ok 2 (far : Int) M 3 11 (by decide) (by omega) (by omega) (by omega) (by omega), dAdd, e2, e3, Ex.enc]
def L_drawn (dr pk lf self : Fn) : LS :=
  (sSeq (sIf ((tO (tCm dEq (eV 1) (eC (.int 0))) (tCm dEq (eCall dr [] (aC (eV 0) (aC (eC (.int 7)) aN))) (eC (.int 0)))))
  (sRet (eCall lf [] (aC (eV 0) (aC (eV 2) aN))))
  sNil)
  (sSeq (sSet 5 (eCall pk [] (aC (eV 0) (aC (eLst (aC (eC (.str "not")) (aC (eC (.str "and")) (aC (eC (.str "or")) (aC (eC (.str "xor")) (aC (eC (.str "plus")) (aC (eC (.str "plus")) (aC (eC (.str "minus")) (aC (eC (.str "minus")) (aC (eC (.str "shift")) (aC (eC (.str "times")) aN))))))))))) aN))))
  (sSeq (sIf (tCm dEq (eV 5) (eC (.str "not")))
  (sRet (eTup (aC (eV 5) (aC (eCall self [] (aC (eV 0) (aC (eB dSub (eV 1) (eC (.int 1))) (aC (eV 2) (aC (eV 3) (aC (eV 4) aN)))))) aN))))
  sNil)
  (sSeq (sIf (tCm dEq (eV 5) (eC (.str "shift")))
  (sRet (eTup (aC (eV 5) (aC (eCall self [] (aC (eV 0) (aC (eB dSub (eV 1) (eC (.int 1))) (aC (eV 2) (aC (eV 3) (aC (eV 4) aN)))))) (aC (eB dAdd (eC (.int 1)) (eCall dr [] (aC (eV 0) (aC (eV 3) aN)))) aN)))))
  sNil)
  (sSeq (sIf (tCm dEq (eV 5) (eC (.str "times")))
  (sSeq (sSet 6 (eB dSub (eCall dr [] (aC (eV 0) (aC (eB dAdd (eB dMul (eC (.int 2)) (eV 4)) (eC (.int 1))) aN))) (eV 4)))
  (sRet (eTup (aC (eV 5) (aC (eV 6) (aC (eCall self [] (aC (eV 0) (aC (eB dSub (eV 1) (eC (.int 1))) (aC (eV 2) (aC (eV 3) (aC (eV 4) aN)))))) aN))))))
  sNil)
  (sSeq (sSet 7 (eCall dr [] (aC (eV 0) (aC (eV 1) aN))))
  (sSeq (sSet 8 (eCall self [] (aC (eV 0) (aC (eV 7) (aC (eV 2) (aC (eV 3) (aC (eV 4) aN)))))))
  (sRet (eTup (aC (eV 5) (aC (eV 8) (aC (eCall self [] (aC (eV 0) (aC (eB dSub (eB dSub (eV 1) (eC (.int 1))) (eV 7)) (aC (eV 2) (aC (eV 3) (aC (eV 4) aN)))))) aN))))))))))))
/-- f draws a form with at most m operations -/
def Draws (f : Fn) (m : Nat) : Prop := ∀ {t p far sh sc : Nat} {M : Mem}, PenAt t p M → t + 20 * (2 * m + 1) < 1000000000 → far ≤ 1000 → 1 ≤ sh → sh ≤ 4 → sc ≤ 9 →
  ∃ (e : Ex) (M' : Mem), f [.loc p, .int m, .int far, .int sh, .int sc] M = .ok e.enc M' ∧ e.ok ∧ e.ops ≤ m ∧ PenAt (t + 20 * (2 * m + 1)) p M' ∧ Kp (N1 p) M M'
theorem draws_step {f dr pk lf self : Fn} (hd : IsDraw dr) (hp : IsPick pk) (hl : IsLeaf lf) (h : ∀ a b c d e M, f [a, b, c, d, e] M = retF (L_drawn dr pk lf self [some a, some b, some c, some d, some e, none, none, none, none] M)) {m : Nat} (hm : m ≤ 1000) (ih : ∀ j, j < m → Draws self j) : Draws f m := fun {t p far sh sc M} hpen ht hfar hsh1 hsh hsc => by
  rw [h]
  by_cases hm0 : m = 0
  · subst hm0
    obtain ⟨e, M', e1, a1, b1, c1, d1⟩ := hl hpen (by omega) hfar
    refine ⟨e, M', ?_, a1, by omega, c1.mono (by omega), d1⟩
    have z : ∀ M, dEq (.int ((0 : Nat) : Int)) (.int 0) M = .ok (.bl true) M := fun _ => rfl
    simp only [L_drawn, bind_ok, bind_ex, outE_ok, outE_ex, retF_nx, retF_rt, retF_xc, x_optR, x_eV, x_eC, x_kB, x_eB, x_eU, x_eF, x_kM, x_eM, x_ift, x_iff, x_eIf, x_kTup, x_kLst, x_eTup, x_eLst, x_aN, x_kCc, x_kC, x_aC, x_tV, x_kCn, x_kCm, x_tCm, x_okB, x_tA, x_tO, x_kN, x_tN, x_tCh, x_kCj, x_kCi, x_kCh, x_eCh, x_kNb, x_kAn, x_kOr, x_kNo, x_eAnd, x_eOr, x_eNot, x_kCl, x_eCall, x_kS2, x_kS1, x_eSl, x_oN, x_asO, x_oS, x_mLoc, x_kML, x_eML, x_kM0, x_kMl0, x_eML0, x_truB, x_truI, x_asB, x_cnx, x_crt, x_cbk, x_cct, x_cxc, x_sSeq, x_sNil, x_sBrk, x_sCnt, x_kEx, x_kSet, x_sEx, x_sSet, x_okO, x_putsN, x_putsC, x_kPar, x_sPar, x_kRet, x_sRet, x_sRetN, x_sIf, x_kSb3, x_kSb2, x_kSb1, x_sSub, x_kAsg, x_sAsg, x_pnm, x_ptp, x_kFor, x_sFor, x_itT, x_iR1, x_kR2, x_iR2, x_iE, x_tY, x_wN, x_wC, List.getElem?_cons_zero, List.getElem?_cons_succ, List.set_cons_zero, List.set_cons_succ, List.append_nil, List.nil_append, List.cons_append, List.length_cons, List.length_nil, Nat.reduceLeDiff, Nat.reduceAdd, Bool.not_true, Bool.not_false, T_ok, x_kMt, x_sMt, x_mtN, x_mtC, x_sWh, true_or, true_and, and_true, if_true, if_false, z, e1]
  · have z : ∀ M, dEq (.int (m : Int)) (.int 0) M = .ok (.bl false) M := fun M => by rw [eq_int]; simp; omega
    obtain ⟨v, M1, e1, a1, b1, c1, d1, l1⟩ := hd (n := 7) 3 hpen (by omega) (by omega) (by decide) (by omega) (by omega)
    by_cases q : v = 0
    · subst q
      obtain ⟨e, M', e2, a2, b2, c2, d2⟩ := hl c1 (by omega) hfar
      refine ⟨e, M', ?_, a2, by omega, c2.mono (by omega), d1.trans d2⟩
      have z0 : ∀ M, dEq (.int 0) (.int 0) M = .ok (.bl true) M := fun _ => rfl
      simp only [L_drawn, bind_ok, bind_ex, outE_ok, outE_ex, retF_nx, retF_rt, retF_xc, x_optR, x_eV, x_eC, x_kB, x_eB, x_eU, x_eF, x_kM, x_eM, x_ift, x_iff, x_eIf, x_kTup, x_kLst, x_eTup, x_eLst, x_aN, x_kCc, x_kC, x_aC, x_tV, x_kCn, x_kCm, x_tCm, x_okB, x_tA, x_tO, x_kN, x_tN, x_tCh, x_kCj, x_kCi, x_kCh, x_eCh, x_kNb, x_kAn, x_kOr, x_kNo, x_eAnd, x_eOr, x_eNot, x_kCl, x_eCall, x_kS2, x_kS1, x_eSl, x_oN, x_asO, x_oS, x_mLoc, x_kML, x_eML, x_kM0, x_kMl0, x_eML0, x_truB, x_truI, x_asB, x_cnx, x_crt, x_cbk, x_cct, x_cxc, x_sSeq, x_sNil, x_sBrk, x_sCnt, x_kEx, x_kSet, x_sEx, x_sSet, x_okO, x_putsN, x_putsC, x_kPar, x_sPar, x_kRet, x_sRet, x_sRetN, x_sIf, x_kSb3, x_kSb2, x_kSb1, x_sSub, x_kAsg, x_sAsg, x_pnm, x_ptp, x_kFor, x_sFor, x_itT, x_iR1, x_kR2, x_iR2, x_iE, x_tY, x_wN, x_wC, List.getElem?_cons_zero, List.getElem?_cons_succ, List.set_cons_zero, List.set_cons_succ, List.append_nil, List.nil_append, List.cons_append, List.length_cons, List.length_nil, Nat.reduceLeDiff, Nat.reduceAdd, Bool.not_true, Bool.not_false, T_ok, x_kMt, x_sMt, x_mtN, x_mtC, x_sWh, true_or, true_and, and_true, if_true, if_false, z, e1, z0, e2]
    · have zv : ∀ M, dEq (.int v) (.int 0) M = .ok (.bl false) M := fun M => by rw [eq_int]; simp [q]
      have hpl := c1.lt
      obtain ⟨d, M3, m3, e3, c3, d3, l3⟩ := hp (q := M1.length) (M := M1 ++ [.lst [D.str "not", .str "and", .str "or", .str "xor", .str "plus", .str "plus", .str "minus", .str "minus", .str "shift", .str "times"]]) (c1.kp (S := N0) (Kp.push _ _) id) (by omega) (push_at _ _) (by omega) (by simp) (by simp)
      have k3 : Kp (N1 p) M M3 := (d1.pushn).trans d3
      have em : ((m : Nat) : Int) - 1 = ((m - 1 : Nat) : Int) := by omega
      have w (s t : Str) (b : Bool) (z : (s == t) = b) : ∀ M, dEq (.str s) (.str t) M = .ok (.bl b) M := fun M => by rw [eq_str, z]
      have hw : d = .str "not" ∨ d = .str "shift" ∨ d = .str "times" ∨ ∃ o : Op, d = .str o.word := by
        simp only [List.mem_cons, List.not_mem_nil, or_false] at m3
        rcases m3 with rfl | rfl | rfl | rfl | rfl | rfl | rfl | rfl | rfl | rfl
        · exact .inl rfl
        · exact .inr (.inr (.inr ⟨.and, rfl⟩))
        · exact .inr (.inr (.inr ⟨.or, rfl⟩))
        · exact .inr (.inr (.inr ⟨.xor, rfl⟩))
        · exact .inr (.inr (.inr ⟨.plus, rfl⟩))
        · exact .inr (.inr (.inr ⟨.plus, rfl⟩))
        · exact .inr (.inr (.inr ⟨.minus, rfl⟩))
        · exact .inr (.inr (.inr ⟨.minus, rfl⟩))
        · exact .inr (.inl rfl)
        · exact .inr (.inr (.inl rfl))
      rcases hw with rfl | rfl | rfl | ⟨o, rfl⟩
      · obtain ⟨a, M4, e4, a4, b4, c4, d4⟩ := ih (m - 1) (by omega) (far := far) (sh := sh) (sc := sc) c3 (by omega) hfar hsh1 hsh hsc
        refine ⟨.not a, M4, ?_, a4, by simp only [Ex.ops]; omega, c4.mono (by omega), k3.trans d4⟩
        simp only [L_drawn, bind_ok, bind_ex, outE_ok, outE_ex, retF_nx, retF_rt, retF_xc, x_optR, x_eV, x_eC, x_kB, x_eB, x_eU, x_eF, x_kM, x_eM, x_ift, x_iff, x_eIf, x_kTup, x_kLst, x_eTup, x_eLst, x_aN, x_kCc, x_kC, x_aC, x_tV, x_kCn, x_kCm, x_tCm, x_okB, x_tA, x_tO, x_kN, x_tN, x_tCh, x_kCj, x_kCi, x_kCh, x_eCh, x_kNb, x_kAn, x_kOr, x_kNo, x_eAnd, x_eOr, x_eNot, x_kCl, x_eCall, x_kS2, x_kS1, x_eSl, x_oN, x_asO, x_oS, x_mLoc, x_kML, x_eML, x_kM0, x_kMl0, x_eML0, x_truB, x_truI, x_asB, x_cnx, x_crt, x_cbk, x_cct, x_cxc, x_sSeq, x_sNil, x_sBrk, x_sCnt, x_kEx, x_kSet, x_sEx, x_sSet, x_okO, x_putsN, x_putsC, x_kPar, x_sPar, x_kRet, x_sRet, x_sRetN, x_sIf, x_kSb3, x_kSb2, x_kSb1, x_sSub, x_kAsg, x_sAsg, x_pnm, x_ptp, x_kFor, x_sFor, x_itT, x_iR1, x_kR2, x_iR2, x_iE, x_tY, x_wN, x_wC, List.getElem?_cons_zero, List.getElem?_cons_succ, List.set_cons_zero, List.set_cons_succ, List.append_nil, List.nil_append, List.cons_append, List.length_cons, List.length_nil, Nat.reduceLeDiff, Nat.reduceAdd, Bool.not_true, Bool.not_false, T_ok, x_kMt, x_sMt, x_mtN, x_mtC, x_sWh, true_or, true_and, and_true, if_true, if_false, z, e1, zv, e3, w "not" "not" true rfl, dSub, em, e4, Ex.enc]
      · obtain ⟨a, M4, e4, a4, b4, c4, d4⟩ := ih (m - 1) (by omega) (far := far) (sh := sh) (sc := sc) c3 (by omega) hfar hsh1 hsh hsc
        obtain ⟨u, M5, e5, a5, b5, c5, d5, l5⟩ := hd (n := (sh : Int)) 4 c4 (by omega) (by omega) (by omega) (by omega) (by omega)
        obtain ⟨u, rfl⟩ := Int.eq_ofNat_of_zero_le a5
        have eu : (1 : Int) + (u : Nat) = ((1 + u : Nat) : Int) := by omega
        refine ⟨.shift a (1 + u), M5, ?_, ⟨a4, by omega, by omega⟩, by simp only [Ex.ops]; omega, c5.mono (by omega), (k3.trans d4).trans d5⟩
        simp only [L_drawn, bind_ok, bind_ex, outE_ok, outE_ex, retF_nx, retF_rt, retF_xc, x_optR, x_eV, x_eC, x_kB, x_eB, x_eU, x_eF, x_kM, x_eM, x_ift, x_iff, x_eIf, x_kTup, x_kLst, x_eTup, x_eLst, x_aN, x_kCc, x_kC, x_aC, x_tV, x_kCn, x_kCm, x_tCm, x_okB, x_tA, x_tO, x_kN, x_tN, x_tCh, x_kCj, x_kCi, x_kCh, x_eCh, x_kNb, x_kAn, x_kOr, x_kNo, x_eAnd, x_eOr, x_eNot, x_kCl, x_eCall, x_kS2, x_kS1, x_eSl, x_oN, x_asO, x_oS, x_mLoc, x_kML, x_eML, x_kM0, x_kMl0, x_eML0, x_truB, x_truI, x_asB, x_cnx, x_crt, x_cbk, x_cct, x_cxc, x_sSeq, x_sNil, x_sBrk, x_sCnt, x_kEx, x_kSet, x_sEx, x_sSet, x_okO, x_putsN, x_putsC, x_kPar, x_sPar, x_kRet, x_sRet, x_sRetN, x_sIf, x_kSb3, x_kSb2, x_kSb1, x_sSub, x_kAsg, x_sAsg, x_pnm, x_ptp, x_kFor, x_sFor, x_itT, x_iR1, x_kR2, x_iR2, x_iE, x_tY, x_wN, x_wC, List.getElem?_cons_zero, List.getElem?_cons_succ, List.set_cons_zero, List.set_cons_succ, List.append_nil, List.nil_append, List.cons_append, List.length_cons, List.length_nil, Nat.reduceLeDiff, Nat.reduceAdd, Bool.not_true, Bool.not_false, T_ok, x_kMt, x_sMt, x_mtN, x_mtC, x_sWh, true_or, true_and, and_true, if_true, if_false, z, e1, zv, e3, w "shift" "not" false rfl, w "shift" "shift" true rfl, dSub, em, e4, e5, dAdd, eu, Ex.enc]
      · obtain ⟨u, M5, e5, a5, b5, c5, d5, l5⟩ := hd (n := 2 * (sc : Int) + 1) 5 c3 (by omega) (by omega) (by omega) (by omega) (by omega)
        obtain ⟨a, M4, e4, a4, b4, c4, d4⟩ := ih (m - 1) (by omega) (far := far) (sh := sh) (sc := sc) c5 (by omega) hfar hsh1 hsh hsc
        refine ⟨.times (u - sc) a, M4, ?_, ⟨⟨by omega, by omega⟩, a4⟩, by simp only [Ex.ops]; omega, c4.mono (by omega), (k3.trans d5).trans d4⟩
        simp only [L_drawn, bind_ok, bind_ex, outE_ok, outE_ex, retF_nx, retF_rt, retF_xc, x_optR, x_eV, x_eC, x_kB, x_eB, x_eU, x_eF, x_kM, x_eM, x_ift, x_iff, x_eIf, x_kTup, x_kLst, x_eTup, x_eLst, x_aN, x_kCc, x_kC, x_aC, x_tV, x_kCn, x_kCm, x_tCm, x_okB, x_tA, x_tO, x_kN, x_tN, x_tCh, x_kCj, x_kCi, x_kCh, x_eCh, x_kNb, x_kAn, x_kOr, x_kNo, x_eAnd, x_eOr, x_eNot, x_kCl, x_eCall, x_kS2, x_kS1, x_eSl, x_oN, x_asO, x_oS, x_mLoc, x_kML, x_eML, x_kM0, x_kMl0, x_eML0, x_truB, x_truI, x_asB, x_cnx, x_crt, x_cbk, x_cct, x_cxc, x_sSeq, x_sNil, x_sBrk, x_sCnt, x_kEx, x_kSet, x_sEx, x_sSet, x_okO, x_putsN, x_putsC, x_kPar, x_sPar, x_kRet, x_sRet, x_sRetN, x_sIf, x_kSb3, x_kSb2, x_kSb1, x_sSub, x_kAsg, x_sAsg, x_pnm, x_ptp, x_kFor, x_sFor, x_itT, x_iR1, x_kR2, x_iR2, x_iE, x_tY, x_wN, x_wC, List.getElem?_cons_zero, List.getElem?_cons_succ, List.set_cons_zero, List.set_cons_succ, List.append_nil, List.nil_append, List.cons_append, List.length_cons, List.length_nil, Nat.reduceLeDiff, Nat.reduceAdd, Bool.not_true, Bool.not_false, T_ok, x_kMt, x_sMt, x_mtN, x_mtC, x_sWh, true_or, true_and, and_true, if_true, if_false, z, e1, zv, e3, w "times" "not" false rfl, w "times" "shift" false rfl, w "times" "times" true rfl, fun M => @mul_ok 2 (sc : Int) M 3 5 (by decide) (by omega) (by omega) (by omega) (by omega), dAdd, e5, dSub, em, e4, Ex.enc]
      · obtain ⟨u, M5, e5, a5, b5, c5, d5, l5⟩ := hd (n := (m : Int)) 11 c3 (by omega) (by omega) (by omega) (by omega) (by omega)
        obtain ⟨u, rfl⟩ := Int.eq_ofNat_of_zero_le a5
        obtain ⟨a, M6, e6, a6, b6, c6, d6⟩ := ih u (by omega) (far := far) (sh := sh) (sc := sc) c5 (by omega) hfar hsh1 hsh hsc
        obtain ⟨b, M7, e7, a7, b7, c7, d7⟩ := ih (m - 1 - u) (by omega) (far := far) (sh := sh) (sc := sc) c6 (by omega) hfar hsh1 hsh hsc
        have r (t : Str) (z : (o.word == t) = false) : ∀ M, dEq (.str o.word) (.str t) M = .ok (.bl false) M := fun M => by rw [eq_str, z]
        have eu : ((m : Nat) : Int) - 1 - (u : Nat) = ((m - 1 - u : Nat) : Int) := by omega
        refine ⟨.bin o a b, M7, ?_, ⟨a6, a7⟩, by simp only [Ex.ops]; omega, c7.mono (by omega), ((k3.trans d5).trans d6).trans d7⟩
        simp only [L_drawn, bind_ok, bind_ex, outE_ok, outE_ex, retF_nx, retF_rt, retF_xc, x_optR, x_eV, x_eC, x_kB, x_eB, x_eU, x_eF, x_kM, x_eM, x_ift, x_iff, x_eIf, x_kTup, x_kLst, x_eTup, x_eLst, x_aN, x_kCc, x_kC, x_aC, x_tV, x_kCn, x_kCm, x_tCm, x_okB, x_tA, x_tO, x_kN, x_tN, x_tCh, x_kCj, x_kCi, x_kCh, x_eCh, x_kNb, x_kAn, x_kOr, x_kNo, x_eAnd, x_eOr, x_eNot, x_kCl, x_eCall, x_kS2, x_kS1, x_eSl, x_oN, x_asO, x_oS, x_mLoc, x_kML, x_eML, x_kM0, x_kMl0, x_eML0, x_truB, x_truI, x_asB, x_cnx, x_crt, x_cbk, x_cct, x_cxc, x_sSeq, x_sNil, x_sBrk, x_sCnt, x_kEx, x_kSet, x_sEx, x_sSet, x_okO, x_putsN, x_putsC, x_kPar, x_sPar, x_kRet, x_sRet, x_sRetN, x_sIf, x_kSb3, x_kSb2, x_kSb1, x_sSub, x_kAsg, x_sAsg, x_pnm, x_ptp, x_kFor, x_sFor, x_itT, x_iR1, x_kR2, x_iR2, x_iE, x_tY, x_wN, x_wC, List.getElem?_cons_zero, List.getElem?_cons_succ, List.set_cons_zero, List.set_cons_succ, List.append_nil, List.nil_append, List.cons_append, List.length_cons, List.length_nil, Nat.reduceLeDiff, Nat.reduceAdd, Bool.not_true, Bool.not_false, T_ok, x_kMt, x_sMt, x_mtN, x_mtC, x_sWh, true_or, true_and, and_true, if_true, if_false, z, e1, zv, e3, r "not" (by cases o <;> rfl), r "shift" (by cases o <;> rfl), r "times" (by cases o <;> rfl), e5, e6, dSub, eu, e7, Ex.enc]
theorem draws_run {run : Nat → Nat → Fn} {i j g l d : Nat} (hd : ∀ k, IsDraw (run (k + d) j)) (hp : ∀ k, IsPick (run (k + d) g)) (hl : ∀ k, IsLeaf (run (k + d) l)) (h : ∀ k a b c d e M, run (k + 1) i [a, b, c, d, e] M = retF (L_drawn (run k j) (run k g) (run k l) (run k i) [some a, some b, some c, some d, some e, none, none, none, none] M)) :
    ∀ (n m k : Nat), m ≤ n → n ≤ 1000 → Draws (run (k + n + d + 1) i) m
  | 0, m, k, hm, hn => draws_step (dr := run (k + 0 + d) j) (pk := run (k + 0 + d) g) (lf := run (k + 0 + d) l) (self := run (k + 0 + d) i) (hd _) (hp _) (hl _) (h _) (by omega) fun j hj => absurd hj (by omega)
  | n + 1, m, k, hm, hn => draws_step (dr := run (k + (n + 1) + d) j) (pk := run (k + (n + 1) + d) g) (lf := run (k + (n + 1) + d) l) (self := run (k + (n + 1) + d) i) (hd _) (hp _) (hl _) (h _) (by omega) fun j hj => by
    rw [show k + (n + 1) + d = k + n + d + 1 by omega]
    exact draws_run hd hp hl h n j k (by omega) (by omega)
end G

/-! X5: whole, value; what the program asks of its arguments; the laws' loops over cells. -/
namespace G
open PySem L2
def L_needvals (ii : Fn) : LS :=
  (sIf ((tO (tN (tV (eF (bIsi "tuple") (aC (eV 0) aN)))) (tO (tCm dNe (eF bLen (aC (eV 0) aN)) (eV 1)) (tN (tV (eF bAll (aC (eLc (iE (eV 0)) (.nm 2) tY (eCall ii [] (aC (eV 2) aN)) [2]) aN)))))))
  (sNo)
  sNil)
def NeedVals (f : Fn) : Prop := ∀ {vs : List Int} {n : Nat} {M : Mem}, vs.length = n → n ≤ 1000 → ∃ M', f [encV vs, .int n] M = .ok .non M' ∧ Kp N0 M M'
theorem needVals {f ii : Fn} (hi : IsInt ii) (h : ∀ d e M, f [d, e] M = retF (L_needvals ii [some d, some e, none] M)) : NeedVals f := fun {vs n M} hl hn => by
  obtain ⟨M', e, hk⟩ := all_true (it := iE (eV 0)) (v := .tup (vs.map D.int)) (ds := vs.map D.int) (j := 2) (te := eCall ii [] (aC (eV 2) aN)) (vs := [2]) (L := [some (encV vs), some (.int n), none]) (M := M) (M0 := M) rfl Iw.tup (by rw [List.length_map, hl]; exact Nat.le_trans hn (by decide))
    (fun i d M' hd _ => by
      obtain ⟨x, hx, rfl⟩ : ∃ x, x ∈ vs ∧ d = .int x := by
        rw [List.getElem?_map] at hd
        cases q : vs[i]? with
        | none => rw [q] at hd; cases hd
        | some x => rw [q] at hd; cases hd; exact ⟨x, List.mem_of_getElem? q, rfl⟩
      refine ⟨M', ?_, Kp.refl _⟩
      simp only [bind_ok, bind_ex, outE_ok, outE_ex, retF_nx, retF_rt, retF_xc, x_optR, x_eV, x_eC, x_kB, x_eB, x_eU, x_eF, x_kM, x_eM, x_ift, x_iff, x_eIf, x_kTup, x_kLst, x_eTup, x_eLst, x_aN, x_kCc, x_kC, x_aC, x_tV, x_kCn, x_kCm, x_tCm, x_okB, x_tA, x_tO, x_kN, x_tN, x_tCh, x_kCj, x_kCi, x_kCh, x_eCh, x_kNb, x_kAn, x_kOr, x_kNo, x_eAnd, x_eOr, x_eNot, x_kCl, x_eCall, x_kS2, x_kS1, x_eSl, x_oN, x_asO, x_oS, x_mLoc, x_kML, x_eML, x_kM0, x_kMl0, x_eML0, x_truB, x_truI, x_asB, x_cnx, x_crt, x_cbk, x_cct, x_cxc, x_sSeq, x_sNil, x_sBrk, x_sCnt, x_kEx, x_kSet, x_sEx, x_sSet, x_okO, x_putsN, x_putsC, x_kPar, x_sPar, x_kRet, x_sRet, x_sRetN, x_sIf, x_kSb3, x_kSb2, x_kSb1, x_sSub, x_kAsg, x_sAsg, x_pnm, x_ptp, x_kFor, x_sFor, x_itT, x_iR1, x_kR2, x_iR2, x_iE, x_tY, x_wN, x_wC, List.getElem?_cons_zero, List.getElem?_cons_succ, List.set_cons_zero, List.set_cons_succ, List.append_nil, List.nil_append, List.cons_append, List.length_cons, List.length_nil, Nat.reduceLeDiff, Nat.reduceAdd, Bool.not_true, Bool.not_false, T_ok, x_kMt, x_sMt, x_mtN, x_mtC, x_sWh, true_or, true_and, and_true, if_true, if_false, hi (i := x)])
  refine ⟨M', ?_, hk⟩
  rw [h]
  have e2 : dNe (.int ((vs.map D.int).length : Int)) (.int (n : Int)) M = .ok (.bl false) M := by rw [List.length_map, hl, ne_int]; simp
  simp only [L_needvals, bind_ok, bind_ex, outE_ok, outE_ex, retF_nx, retF_rt, retF_xc, x_optR, x_eV, x_eC, x_kB, x_eB, x_eU, x_eF, x_kM, x_eM, x_ift, x_iff, x_eIf, x_kTup, x_kLst, x_eTup, x_eLst, x_aN, x_kCc, x_kC, x_aC, x_tV, x_kCn, x_kCm, x_tCm, x_okB, x_tA, x_tO, x_kN, x_tN, x_tCh, x_kCj, x_kCi, x_kCh, x_eCh, x_kNb, x_kAn, x_kOr, x_kNo, x_eAnd, x_eOr, x_eNot, x_kCl, x_eCall, x_kS2, x_kS1, x_eSl, x_oN, x_asO, x_oS, x_mLoc, x_kML, x_eML, x_kM0, x_kMl0, x_eML0, x_truB, x_truI, x_asB, x_cnx, x_crt, x_cbk, x_cct, x_cxc, x_sSeq, x_sNil, x_sBrk, x_sCnt, x_kEx, x_kSet, x_sEx, x_sSet, x_okO, x_putsN, x_putsC, x_kPar, x_sPar, x_kRet, x_sRet, x_sRetN, x_sIf, x_kSb3, x_kSb2, x_kSb1, x_sSub, x_kAsg, x_sAsg, x_pnm, x_ptp, x_kFor, x_sFor, x_itT, x_iR1, x_kR2, x_iR2, x_iE, x_tY, x_wN, x_wC, List.getElem?_cons_zero, List.getElem?_cons_succ, List.set_cons_zero, List.set_cons_succ, List.append_nil, List.nil_append, List.cons_append, List.length_cons, List.length_nil, Nat.reduceLeDiff, Nat.reduceAdd, Bool.not_true, Bool.not_false, T_ok, x_kMt, x_sMt, x_mtN, x_mtC, x_sWh, true_or, true_and, and_true, if_true, if_false, isi_tt, len_tup, e2] at e ⊢
  simp only [e, bind_ok, bind_ex, outE_ok, outE_ex, retF_nx, retF_rt, retF_xc, x_optR, x_eV, x_eC, x_kB, x_eB, x_eU, x_eF, x_kM, x_eM, x_ift, x_iff, x_eIf, x_kTup, x_kLst, x_eTup, x_eLst, x_aN, x_kCc, x_kC, x_aC, x_tV, x_kCn, x_kCm, x_tCm, x_okB, x_tA, x_tO, x_kN, x_tN, x_tCh, x_kCj, x_kCi, x_kCh, x_eCh, x_kNb, x_kAn, x_kOr, x_kNo, x_eAnd, x_eOr, x_eNot, x_kCl, x_eCall, x_kS2, x_kS1, x_eSl, x_oN, x_asO, x_oS, x_mLoc, x_kML, x_eML, x_kM0, x_kMl0, x_eML0, x_truB, x_truI, x_asB, x_cnx, x_crt, x_cbk, x_cct, x_cxc, x_sSeq, x_sNil, x_sBrk, x_sCnt, x_kEx, x_kSet, x_sEx, x_sSet, x_okO, x_putsN, x_putsC, x_kPar, x_sPar, x_kRet, x_sRet, x_sRetN, x_sIf, x_kSb3, x_kSb2, x_kSb1, x_sSub, x_kAsg, x_sAsg, x_pnm, x_ptp, x_kFor, x_sFor, x_itT, x_iR1, x_kR2, x_iR2, x_iE, x_tY, x_wN, x_wC, List.getElem?_cons_zero, List.getElem?_cons_succ, List.set_cons_zero, List.set_cons_succ, List.append_nil, List.nil_append, List.cons_append, List.length_cons, List.length_nil, Nat.reduceLeDiff, Nat.reduceAdd, Bool.not_true, Bool.not_false, T_ok, x_kMt, x_sMt, x_mtN, x_mtC, x_sWh, true_or, true_and, and_true, if_true, if_false]
def L_needwidth (ib : Fn) : LS := (sIf (tN (tV (eCall ib [] (aC (eV 0) (aC (eC (.int 1)) (aC (eV 1) aN))))))
  (sNo)
  sNil)
def NeedWidth (f : Fn) : Prop := ∀ {w most : Nat} {M : Mem}, 1 ≤ w → w ≤ most → f [.int w, .int most] M = .ok .non M
theorem needWidth {f ib : Fn} (hb : IsBtw ib) (h : ∀ d e M, f [d, e] M = retF (L_needwidth ib [some d, some e] M)) : NeedWidth f := fun {w most M} h1 h2 => by
  rw [h]
  have z : (decide ((1 : Int) ≤ (w : Nat)) && decide (((w : Nat) : Int) ≤ (most : Nat))) = true := by
    rw [Bool.and_eq_true, decide_eq_true_eq, decide_eq_true_eq]; omega
  simp only [L_needwidth, bind_ok, bind_ex, outE_ok, outE_ex, retF_nx, retF_rt, retF_xc, x_optR, x_eV, x_eC, x_kB, x_eB, x_eU, x_eF, x_kM, x_eM, x_ift, x_iff, x_eIf, x_kTup, x_kLst, x_eTup, x_eLst, x_aN, x_kCc, x_kC, x_aC, x_tV, x_kCn, x_kCm, x_tCm, x_okB, x_tA, x_tO, x_kN, x_tN, x_tCh, x_kCj, x_kCi, x_kCh, x_eCh, x_kNb, x_kAn, x_kOr, x_kNo, x_eAnd, x_eOr, x_eNot, x_kCl, x_eCall, x_kS2, x_kS1, x_eSl, x_oN, x_asO, x_oS, x_mLoc, x_kML, x_eML, x_kM0, x_kMl0, x_eML0, x_truB, x_truI, x_asB, x_cnx, x_crt, x_cbk, x_cct, x_cxc, x_sSeq, x_sNil, x_sBrk, x_sCnt, x_kEx, x_kSet, x_sEx, x_sSet, x_okO, x_putsN, x_putsC, x_kPar, x_sPar, x_kRet, x_sRet, x_sRetN, x_sIf, x_kSb3, x_kSb2, x_kSb1, x_sSub, x_kAsg, x_sAsg, x_pnm, x_ptp, x_kFor, x_sFor, x_itT, x_iR1, x_kR2, x_iR2, x_iE, x_tY, x_wN, x_wC, List.getElem?_cons_zero, List.getElem?_cons_succ, List.set_cons_zero, List.set_cons_succ, List.append_nil, List.nil_append, List.cons_append, List.length_cons, List.length_nil, Nat.reduceLeDiff, Nat.reduceAdd, Bool.not_true, Bool.not_false, T_ok, x_kMt, x_sMt, x_mtN, x_mtC, x_sWh, true_or, true_and, and_true, if_true, if_false, hb (i := w), z]
def L_wholeF (ne nv wo : Fn) : LS :=
  (sSeq (sEx (eCall ne [] (aC (eV 0) aN)))
  (sSeq (sEx (eCall nv [.int 3] (aC (eV 1) aN)))
  (sRet (eCall wo [] (aC (eV 0) (aC (eV 1) aN))))))
/-- three values in a range -/
structure Vals3 (B : Nat) (vs : List Int) : Prop where
  len : vs.length = 3
  rg : ∀ v ∈ vs, Rg B v
  lo : 10 ≤ B
  hi : B ≤ 9000
def WholeOf (f : Fn) : Prop := ∀ {B : Nat} {vs : List Int} {e : Ex}, Vals3 B vs → e.ok → e.ops ≤ 10 → Tells f vs e
def IsWhole (f : Fn) : Prop := ∀ {B : Nat} {vs : List Int} {e : Ex} {M : Mem}, Vals3 B vs → e.ok → e.ops ≤ 10 → ∃ M', f [e.enc, encV vs] M = .ok (.int (e.val vs)) M' ∧ Kp N0 M M'
theorem isWhole {f ne nv wo : Fn} (h1 : NeedEx ne) (h2 : NeedVals nv) (h3 : WholeOf wo) (h : ∀ d e M, f [d, e] M = retF (L_wholeF ne nv wo [some d, some e] M)) : IsWhole f := fun {B vs e M} hv ho hops => by
  obtain ⟨M1, e1, k1⟩ := h1 (M := M) ho hops
  obtain ⟨M2', e2, k2⟩ := h2 (vs := vs) (n := 3) (M := M1) hv.len (by decide)
  refine ⟨M2', ?_, k1.trans k2⟩
  rw [h]
  have e2' : nv [encV vs, .int 3] M1 = .ok .non M2' := e2
  simp only [L_wholeF, bind_ok, bind_ex, outE_ok, outE_ex, retF_nx, retF_rt, retF_xc, x_optR, x_eV, x_eC, x_kB, x_eB, x_eU, x_eF, x_kM, x_eM, x_ift, x_iff, x_eIf, x_kTup, x_kLst, x_eTup, x_eLst, x_aN, x_kCc, x_kC, x_aC, x_tV, x_kCn, x_kCm, x_tCm, x_okB, x_tA, x_tO, x_kN, x_tN, x_tCh, x_kCj, x_kCi, x_kCh, x_eCh, x_kNb, x_kAn, x_kOr, x_kNo, x_eAnd, x_eOr, x_eNot, x_kCl, x_eCall, x_kS2, x_kS1, x_eSl, x_oN, x_asO, x_oS, x_mLoc, x_kML, x_eML, x_kM0, x_kMl0, x_eML0, x_truB, x_truI, x_asB, x_cnx, x_crt, x_cbk, x_cct, x_cxc, x_sSeq, x_sNil, x_sBrk, x_sCnt, x_kEx, x_kSet, x_sEx, x_sSet, x_okO, x_putsN, x_putsC, x_kPar, x_sPar, x_kRet, x_sRet, x_sRetN, x_sIf, x_kSb3, x_kSb2, x_kSb1, x_sSub, x_kAsg, x_sAsg, x_pnm, x_ptp, x_kFor, x_sFor, x_itT, x_iR1, x_kR2, x_iR2, x_iE, x_tY, x_wN, x_wC, List.getElem?_cons_zero, List.getElem?_cons_succ, List.set_cons_zero, List.set_cons_succ, List.append_nil, List.nil_append, List.cons_append, List.length_cons, List.length_nil, Nat.reduceLeDiff, Nat.reduceAdd, Bool.not_true, Bool.not_false, T_ok, x_kMt, x_sMt, x_mtN, x_mtC, x_sWh, true_or, true_and, and_true, if_true, if_false, e1, e2', h3 hv ho hops M2']
def L_valueof (wo : Fn) : LS := (sRet (eB dMod (eCall wo [] (aC (eV 0) (aC (eV 1) aN))) (eB dShl (eC (.int 1)) (eV 2))))
def ValueOf (f : Fn) : Prop := ∀ {B : Nat} {vs : List Int} {e : Ex} {w : Nat} {M : Mem}, Vals3 B vs → e.ok → e.ops ≤ 10 → w ≤ 9000 → f [e.enc, encV vs, .int w] M = .ok (.int ((e.val vs).fmod (2 ^ w))) M
theorem valueOf {f wo : Fn} (h3 : WholeOf wo) (h : ∀ d e g M, f [d, e, g] M = retF (L_valueof wo [some d, some e, some g] M)) : ValueOf f := fun {B vs e w M} hv ho hops hw => by
  rw [h]
  have hp := pow_pos2 w
  simp only [L_valueof, bind_ok, bind_ex, outE_ok, outE_ex, retF_nx, retF_rt, retF_xc, x_optR, x_eV, x_eC, x_kB, x_eB, x_eU, x_eF, x_kM, x_eM, x_ift, x_iff, x_eIf, x_kTup, x_kLst, x_eTup, x_eLst, x_aN, x_kCc, x_kC, x_aC, x_tV, x_kCn, x_kCm, x_tCm, x_okB, x_tA, x_tO, x_kN, x_tN, x_tCh, x_kCj, x_kCi, x_kCh, x_eCh, x_kNb, x_kAn, x_kOr, x_kNo, x_eAnd, x_eOr, x_eNot, x_kCl, x_eCall, x_kS2, x_kS1, x_eSl, x_oN, x_asO, x_oS, x_mLoc, x_kML, x_eML, x_kM0, x_kMl0, x_eML0, x_truB, x_truI, x_asB, x_cnx, x_crt, x_cbk, x_cct, x_cxc, x_sSeq, x_sNil, x_sBrk, x_sCnt, x_kEx, x_kSet, x_sEx, x_sSet, x_okO, x_putsN, x_putsC, x_kPar, x_sPar, x_kRet, x_sRet, x_sRetN, x_sIf, x_kSb3, x_kSb2, x_kSb1, x_sSub, x_kAsg, x_sAsg, x_pnm, x_ptp, x_kFor, x_sFor, x_itT, x_iR1, x_kR2, x_iR2, x_iE, x_tY, x_wN, x_wC, List.getElem?_cons_zero, List.getElem?_cons_succ, List.set_cons_zero, List.set_cons_succ, List.append_nil, List.nil_append, List.cons_append, List.length_cons, List.length_nil, Nat.reduceLeDiff, Nat.reduceAdd, Bool.not_true, Bool.not_false, T_ok, x_kMt, x_sMt, x_mtN, x_mtC, x_sWh, true_or, true_and, and_true, if_true, if_false, h3 hv ho hops M, fun M => @shl_ok 1 w M 1 (by decide) (by omega) (by omega), Int.one_mul, fun M x => @mod_ok x (2 ^ w) M (by omega)]
def L_valueF (ne nv nw vo : Fn) : LS :=
  (sSeq (sEx (eCall ne [] (aC (eV 0) aN)))
  (sSeq (sEx (eCall nv [.int 3] (aC (eV 1) aN)))
  (sSeq (sEx (eCall nw [.int 2000] (aC (eV 2) aN)))
  (sRet (eCall vo [] (aC (eV 0) (aC (eV 1) (aC (eV 2) aN))))))))
def IsValue (f : Fn) : Prop := ∀ {B : Nat} {vs : List Int} {e : Ex} {w : Nat} {M : Mem}, Vals3 B vs → e.ok → e.ops ≤ 10 → 1 ≤ w → w ≤ 2000 → ∃ M', f [e.enc, encV vs, .int w] M = .ok (.int ((e.val vs).fmod (2 ^ w))) M' ∧ Kp N0 M M'
theorem isValue {f ne nv nw vo : Fn} (h1 : NeedEx ne) (h2 : NeedVals nv) (h4 : NeedWidth nw) (h3 : ValueOf vo) (h : ∀ d e g M, f [d, e, g] M = retF (L_valueF ne nv nw vo [some d, some e, some g] M)) : IsValue f := fun {B vs e w M} hv ho hops w1 w2 => by
  obtain ⟨M1, e1, k1⟩ := h1 (M := M) ho hops
  obtain ⟨M2', e2, k2⟩ := h2 (vs := vs) (n := 3) (M := M1) hv.len (by decide)
  have e3 : nw [.int w, .int 2000] M2' = .ok .non M2' := h4 (most := 2000) w1 w2
  refine ⟨M2', ?_, k1.trans k2⟩
  rw [h]
  have e2' : nv [encV vs, .int 3] M1 = .ok .non M2' := e2
  simp only [L_valueF, bind_ok, bind_ex, outE_ok, outE_ex, retF_nx, retF_rt, retF_xc, x_optR, x_eV, x_eC, x_kB, x_eB, x_eU, x_eF, x_kM, x_eM, x_ift, x_iff, x_eIf, x_kTup, x_kLst, x_eTup, x_eLst, x_aN, x_kCc, x_kC, x_aC, x_tV, x_kCn, x_kCm, x_tCm, x_okB, x_tA, x_tO, x_kN, x_tN, x_tCh, x_kCj, x_kCi, x_kCh, x_eCh, x_kNb, x_kAn, x_kOr, x_kNo, x_eAnd, x_eOr, x_eNot, x_kCl, x_eCall, x_kS2, x_kS1, x_eSl, x_oN, x_asO, x_oS, x_mLoc, x_kML, x_eML, x_kM0, x_kMl0, x_eML0, x_truB, x_truI, x_asB, x_cnx, x_crt, x_cbk, x_cct, x_cxc, x_sSeq, x_sNil, x_sBrk, x_sCnt, x_kEx, x_kSet, x_sEx, x_sSet, x_okO, x_putsN, x_putsC, x_kPar, x_sPar, x_kRet, x_sRet, x_sRetN, x_sIf, x_kSb3, x_kSb2, x_kSb1, x_sSub, x_kAsg, x_sAsg, x_pnm, x_ptp, x_kFor, x_sFor, x_itT, x_iR1, x_kR2, x_iR2, x_iE, x_tY, x_wN, x_wC, List.getElem?_cons_zero, List.getElem?_cons_succ, List.set_cons_zero, List.set_cons_succ, List.append_nil, List.nil_append, List.cons_append, List.length_cons, List.length_nil, Nat.reduceLeDiff, Nat.reduceAdd, Bool.not_true, Bool.not_false, T_ok, x_kMt, x_sMt, x_mtN, x_mtC, x_sWh, true_or, true_and, and_true, if_true, if_false, e1, e2', e3, h3 hv ho hops (w := w) (M := M2') (by omega)]
/-! cells -/
theorem cells_n (l : Nat) (c : Int) (h1 : 1 ≤ c) (h2 : c ≤ 1000) : ∃ n : Nat, n ≤ 1000 ∧ (if (if c < (l : Int) then c else (l : Int)) > 1 then (if c < (l : Int) then c else (l : Int)) else 1) = (n : Int) := by
  by_cases a : c < (l : Int)
  · rw [if_pos a]
    by_cases b : c > 1
    · exact ⟨c.toNat, by omega, by rw [if_pos b]; omega⟩
    · exact ⟨1, by omega, by rw [if_neg b]; rfl⟩
  · rw [if_neg a]
    by_cases b : (l : Int) > 1
    · exact ⟨l, by omega, by rw [if_pos b]⟩
    · exact ⟨1, by omega, by rw [if_neg b]; rfl⟩
def IsCell (f : Fn) : Prop := ∀ {M : Mem} {p : Nat} {ns : List Int} {k : Nat}, M[p]? = some (.rol (ns.map D.int)) → ∃ v : Int, f [.loc p, .int k] M = .ok (.int v) M
theorem isCell {f : Fn} (h : ∀ d e M, f [d, e] M = retF (L_cell [some d, some e] M)) : IsCell f := fun hp => by rw [h]; exact cell_ok hp
def IsPen (f : Fn) : Prop := ∀ {M : Mem} {v : Int}, ∃ a b c, f [.int v] M = .ok (.loc M.length) (M ++ [.lst [.int a, .int b, .int c]]) ∧ PenAt 0 M.length (M ++ [.lst [.int a, .int b, .int c]])
theorem isPen {f : Fn} (h : ∀ d M, f [d] M = retF (L_pen [some d] M)) : IsPen f := fun {M v} => by rw [h]; exact pen_ok
end G

/-! N0: plain law: things: data of any kind, read out of the memory; loops that may return. -/
namespace G
open PySem L2
/-! ### loops -/
theorem wh_R {c : LT} {b : LS} (I : Nat → Env → Mem → Prop) (Q : Fl × Env → Mem → Prop)
    (h : ∀ m L M, I m L M → T (c L M) fun k M1 => (k = true ∧ T (b L M1) fun r M2 => ((r.1 = .nx ∨ r.1 = .ct) ∧ ∃ m', m' < m ∧ I m' r.2 M2) ∨ ∃ d, r.1 = .rt d ∧ Q (.rt d, r.2) M2) ∨ (k = false ∧ Q (.nx, L) M1)) : ∀ (f m : Nat) (L : Env) (M : Mem), I m L M → m < f → T (whL c b f L M) Q
  | 0, _, _, _, _, h => absurd h (Nat.not_lt_zero _)
  | f + 1, m, L, M, hI, hf => by
    obtain ⟨k, M1, e, q⟩ := (h m L M hI).get
    rcases q with ⟨rfl, t⟩ | ⟨rfl, q⟩
    · obtain ⟨⟨fl, L2⟩, M2, e2, q⟩ := t.get
      rcases q with ⟨h2, m', hm', hI'⟩ | ⟨d, h2, q⟩
      · have ih := wh_R I Q h f m' L2 M2 hI' (by omega)
        simp only [whL, e, outE_ok, if_true, e2, bind_ok]
        simp only at h2
        rcases h2 with rfl | rfl <;> exact ih
      · simp only at h2
        subst h2
        simp only [whL, e, outE_ok, if_true, e2, bind_ok]
        exact q
    · simp only [whL, e, outE_ok, Bool.false_eq_true, if_false]
      exact q
/-- a for over ds that may return: S are the places written -/
theorem for_R {S : Nat → Prop} {v : IV} {j : Nat} {b : LS} {ds : List D} (I : Nat → Env → Mem → Prop) (Q : Fl × Env → Mem → Prop) {M0 : Mem} (hv : Iw S v ds M0)
    (hs : ∀ i L M d, ds[i]? = some d → I i L M → Kp S M0 M → T (b (L.set j (some d)) M) fun r M2 => ((r.1 = .nx ∨ r.1 = .ct) ∧ I (i + 1) r.2 M2 ∧ Kp S M0 M2) ∨ ∃ d, r.1 = .rt d ∧ Q (.rt d, r.2) M2)
    (he : ∀ L M, I ds.length L M → Kp S M0 M → Q (.nx, L) M) : ∀ (f i : Nat) (L : Env) (M : Mem), I i L M → Kp S M0 M → i ≤ ds.length → ds.length - i < f → T (forL v (.nm j) b f i L M) Q
  | 0, _, _, _, _, _, _, h => absurd h (Nat.not_lt_zero _)
  | f + 1, i, L, M, hI, hK, hi, hf => by
    by_cases q : i = ds.length
    · subst q
      have e : v.at ds.length M = none := by rw [(hv M hK).1]; exact List.getElem?_eq_none (Nat.le_refl _)
      simp only [forL, e]
      exact he L M hI hK
    · have hd : ds[i]? = some ds[i] := List.getElem?_eq_getElem (by omega)
      have e : v.at i M = some ds[i] := by rw [(hv M hK).1]; exact hd
      obtain ⟨⟨fl, L2⟩, M2, e2, z⟩ := (hs i L M _ hd hI hK).get
      simp only [forL, e, x_pnm, e2, bind_ok]
      rcases z with ⟨h2, h3, h4⟩ | ⟨d, h2, h3⟩
      · have ih := for_R I Q hv hs he f (i + 1) L2 M2 h3 h4 (by omega) (by omega)
        simp only at h2
        rcases h2 with rfl | rfl <;> exact ih
      · simp only at h2
        subst h2
        exact h3
/-- a for from its head on -/
theorem sfor_R {S : Nat → Prop} {it : LI} {v : IV} {j : Nat} {b : LS} {ds : List D} {L : Env} {M M0 : Mem} (I : Nat → Env → Mem → Prop) (Q : Fl × Env → Mem → Prop) (hi : it L M = .ok v M0) (hv : Iw S v ds M0) (h0 : I 0 L M0)
    (hs : ∀ i L M d, ds[i]? = some d → I i L M → Kp S M0 M → T (b (L.set j (some d)) M) fun r M2 => ((r.1 = .nx ∨ r.1 = .ct) ∧ I (i + 1) r.2 M2 ∧ Kp S M0 M2) ∨ ∃ d, r.1 = .rt d ∧ Q (.rt d, r.2) M2)
    (he : ∀ L M, I ds.length L M → Kp S M0 M → Q (.nx, L) M) : T (sFor it (.nm j) b L M) Q := by
  rw [x_sFor, hi, outE_ok, x_kFor, (hv M0 (Kp.refl _)).2]
  exact for_R I Q hv hs he (ds.length + 1) 0 L M0 h0 (Kp.refl _) (Nat.zero_le _) (by omega)
/-- a comprehension with a test -/
theorem lc_gen2 {S : Nat → Prop} {it : LI} {v : IV} {ds : List D} {j : Nat} {tt : LT} {te : LE} {vs : List Nat} {L : Env} {M M0 : Mem} (P : Nat → List D → Mem → Prop)
    (hi : it L M = .ok v M0) (hv : Iw S v ds M0) (h0 : P 0 [] (M0 ++ [.lst []])) (hl : ds.length ≤ big)
    (hs : ∀ i acc M' d, ds[i]? = some d → acc.length ≤ i → P i acc M' → Kp S M0 M' → M'[M0.length]? = some (.lst acc) → ∃ k M1, tt ((wipeL L vs).set j (some d)) M' = .ok k M1 ∧ Kp S M0 M1 ∧ M1[M0.length]? = some (.lst acc) ∧
      ((k = false ∧ P (i + 1) acc M1) ∨ (k = true ∧ ∃ y M2, te ((wipeL L vs).set j (some d)) M1 = .ok y M2 ∧ Kp S M0 M2 ∧ M2[M0.length]? = some (.lst acc) ∧ P (i + 1) (acc ++ [y]) (M2.set M0.length (.lst (acc ++ [y])))))) :
    ∃ acc M', eLc it (.nm j) tt te vs L M = .ok (.loc M0.length) M' ∧ P ds.length acc M' ∧ acc.length ≤ ds.length ∧ M'[M0.length]? = some (.lst acc) ∧ Kp S M0 M' := by
  rw [x_eLc, hi, bind_ok, x_kLc, (hv M0 (Kp.refl _)).2]
  obtain ⟨acc, M', e, h⟩ := lcL_all (v := v) (p := .nm j) (tt := tt) (te := te) (n := ds.length) (m := M0.length) (L := wipeL L vs)
    (fun i acc M' => P i acc M' ∧ acc.length ≤ i ∧ M'[M0.length]? = some (.lst acc) ∧ Kp S M0 M')
    (fun i acc M' hi ⟨a, b, c, d⟩ => by
      have hat : v.at i M' = some ds[i] := by rw [(hv M' d).1 i]; exact List.getElem?_eq_getElem hi
      obtain ⟨k, M1, e1, k1, c1, z⟩ := hs i acc M' _ (List.getElem?_eq_getElem hi) b a d c
      refine ⟨c, _, _, hat, rfl, k, M1, e1, ?_⟩
      rcases z with ⟨rfl, p1⟩ | ⟨rfl, y, M2, e2, e3, e4, e5⟩
      · exact .inl ⟨rfl, p1, by omega, c1, k1⟩
      · exact .inr ⟨rfl, y, M2, e2, e4, by omega, e5, by simp; omega, set_at (mem_lt e4), e3.setn (Nat.le_refl _)⟩)
    (fun acc M' ⟨a, b, c, d⟩ => by rw [(hv M' d).1]; exact List.getElem?_eq_none (Nat.le_refl _))
    (ds.length + 1) 0 [] (M0 ++ [.lst []]) ⟨h0, Nat.le_refl _, push_at _ _, Kp.push _ _⟩ (Nat.zero_le _) (by omega)
  exact ⟨acc, M', e, h⟩
/-! ### against the empty tuple, the empty list -/
theorem eqvAll_nil {ps : List PyData} : PyData.eqvAll ps [] = ps.isEmpty := by
  cases ps with
  | nil => rfl
  | cons a b => simp only [PyData.eqvAll, List.isEmpty_cons]
theorem reifs_len {f : Nat → Option PyData} : ∀ {ds : List D} {ps : List PyData}, reifs f ds = some ps → ps.length = ds.length
  | [], ps, e => by unfold reifs at e; cases e; rfl
  | d :: ds, ps, e => by
    unfold reifs at e
    cases q : reif f d with
    | none => rw [q] at e; cases e
    | some p =>
      cases q2 : reifs f ds with
      | none => rw [q, q2] at e; cases e
      | some qs => rw [q, q2] at e; cases e; simp [reifs_len q2]
theorem isE {α β : Type} {a : List α} {b : List β} (h : a.length = b.length) : a.isEmpty = b.isEmpty := by
  cases a <;> cases b <;> simp_all
theorem eq_nilT {ds : List D} {M : Mem} : dEq (.tup ds) (.tup []) M = .ok (.bl ds.isEmpty) M ∧ dNe (.tup ds) (.tup []) M = .ok (.bl (!ds.isEmpty)) M := by
  have h2 : pyD M (.tup []) = some (.tuple []) := by unfold pyD reif; unfold reifs; rfl
  have e1 : emptR (.tup ds) (.tup []) false M = .ok (.bl ds.isEmpty) M := by show Res.ok (D.bl (ds.isEmpty != false)) M = _; cases ds.isEmpty <;> rfl
  have e2 : emptR (.tup ds) (.tup []) true M = .ok (.bl (!ds.isEmpty)) M := by show Res.ok (D.bl (ds.isEmpty != true)) M = _; cases ds.isEmpty <;> rfl
  unfold dEq dNe
  simp only [strsD, h2, e1, e2]
  cases q : pyD M (.tup ds) with
  | none => exact ⟨rfl, rfl⟩
  | some p =>
    simp only
    split
    · have q' := q
      unfold pyD reif at q'
      cases q2 : reifs (heapD 6 M) ds with
      | none => rw [q2] at q'; cases q'
      | some ps =>
        rw [q2] at q'; cases q'
        simp only [PyData.eqv, eqvAll_nil, isE (reifs_len q2), and_self]
    · exact ⟨rfl, rfl⟩
theorem eq_nilL {n m : Nat} {ds : List D} {M : Mem} (hn : M[n]? = some (.lst ds)) (hm : M[m]? = some (.lst [])) : dEq (.loc n) (.loc m) M = .ok (.bl ds.isEmpty) M ∧ dNe (.loc n) (.loc m) M = .ok (.bl (!ds.isEmpty)) M := by
  have h2 : pyD M (.loc m) = some (.list []) := by
    unfold pyD reif
    show lstP (heapD (5 + 1) M m) = _
    unfold heapD
    rw [hm]; rfl
  have e1 : emptR (.loc n) (.loc m) false M = .ok (.bl ds.isEmpty) M := by unfold emptR emptD; simp only [hn, hm, O.items]; cases ds <;> rfl
  have e2 : emptR (.loc n) (.loc m) true M = .ok (.bl (!ds.isEmpty)) M := by unfold emptR emptD; simp only [hn, hm, O.items]; cases ds <;> rfl
  unfold dEq dNe
  simp only [strsD, h2, e1, e2]
  cases q : pyD M (.loc n) with
  | none => exact ⟨rfl, rfl⟩
  | some p =>
    simp only
    split
    · have q' := q
      unfold pyD reif at q'
      have q' : heapD (5 + 1) M n = some p := (lstP_some q').1
      unfold heapD at q'
      rw [hn] at q'
      simp only at q'
      cases q2 : reifs (heapD 5 M) ds with
      | none => rw [q2] at q'; cases q'
      | some ps =>
        rw [q2] at q'; cases q'
        simp only [PyData.eqv, eqvAll_nil, isE (reifs_len q2), and_self]
    · exact ⟨rfl, rfl⟩
/-! ### data in the memory; x: a place that is none of it -/
/-- the places that are none of it -/
def Nx (x : Nat → Bool) : Nat → Prop := fun i => x i = true
def heapX (x : Nat → Bool) : Nat → Mem → Nat → Option PyData
  | 0, _, _ => none
  | k + 1, M, n => if x n = true then none else match M[n]? with
    | some (.lst ds) => (reifs (heapX x k M) ds).map PyData.list
    | some (.dct kvs) => (reifs (heapX x k M) (kvs.map (·.2))).map fun ps => PyData.dict ((kvs.map fun kv => keyP kv.1).zip ps)
    | _ => none
mutual
theorem reif_mono {f g : Nat → Option PyData} (h : ∀ n p, f n = some p → g n = some p) : ∀ (d : D) {p : PyData}, reif f d = some p → reif g d = some p
  | .non, _, e => by unfold reif at e ⊢; exact e
  | .bl _, _, e => by unfold reif at e ⊢; exact e
  | .int _, _, e => by unfold reif at e ⊢; exact e
  | .str _, _, e => by unfold reif at e ⊢; exact e
  | .loc _, _, e => by
    unfold reif at e ⊢
    obtain ⟨e1, xs, rfl⟩ := lstP_some e
    rw [h _ _ e1]; rfl
  | .obj _, _, e => by
    unfold reif at e ⊢
    obtain ⟨e1, xs, rfl⟩ := dctP_some e
    rw [h _ _ e1]; rfl
  | .tup ds, _, e => by
    unfold reif at e ⊢
    cases q : reifs f ds with
    | none => rw [q] at e; cases e
    | some ps => rw [q] at e; rw [reifs_mono h ds q]; exact e
theorem reifs_mono {f g : Nat → Option PyData} (h : ∀ n p, f n = some p → g n = some p) : ∀ (ds : List D) {ps : List PyData}, reifs f ds = some ps → reifs g ds = some ps
  | [], _, e => by unfold reifs at e ⊢; exact e
  | d :: ds, _, e => by
    unfold reifs at e ⊢
    cases q : reif f d with
    | none => rw [q] at e; cases e
    | some x =>
      rw [q] at e
      cases q2 : reifs f ds with
      | none => rw [q2] at e; cases e
      | some xs => rw [q2] at e; rw [reif_mono h d q, reifs_mono h ds q2]; exact e
end
theorem heapX_kp {x : Nat → Bool} {M M' : Mem} (k : Kp (Nx x) M M') : ∀ {j j' : Nat}, j ≤ j' → ∀ (n : Nat) (p : PyData), heapX x j M n = some p → heapX x j' M' n = some p
  | 0, _, _, _, _, e => by unfold heapX at e; cases e
  | j + 1, 0, l, _, _, _ => absurd l (by omega)
  | j + 1, j' + 1, l, n, p, e => by
    unfold heapX at e ⊢
    by_cases q : x n = true
    · rw [if_pos q] at e; cases e
    · rw [if_neg q] at e ⊢
      cases q2 : M[n]? with
      | none => rw [q2] at e; cases e
      | some o =>
        rw [q2] at e
        rw [k.at q2 q]
        cases o with
        | lst ds =>
          simp only at e ⊢
          cases q3 : reifs (heapX x j M) ds with
          | none => rw [q3] at e; cases e
          | some ps => rw [q3] at e; rw [reifs_mono (heapX_kp k (by omega)) ds q3]; exact e
        | dct kvs =>
          simp only at e ⊢
          cases q3 : reifs (heapX x j M) (kvs.map (·.2)) with
          | none => rw [q3] at e; cases e
          | some ps => rw [q3] at e; rw [reifs_mono (heapX_kp k (by omega)) _ q3]; exact e
        | _ => cases e
theorem heapX_D {x : Nat → Bool} {M : Mem} : ∀ {j j' : Nat}, j ≤ j' → ∀ (n : Nat) (p : PyData), heapX x j M n = some p → heapD j' M n = some p
  | 0, _, _, _, _, e => by unfold heapX at e; cases e
  | j + 1, 0, l, _, _, _ => absurd l (by omega)
  | j + 1, j' + 1, l, n, p, e => by
    unfold heapX at e
    unfold heapD
    by_cases q : x n = true
    · rw [if_pos q] at e; cases e
    · rw [if_neg q] at e
      cases q2 : M[n]? with
      | none => rw [q2] at e; cases e
      | some o =>
        rw [q2] at e
        cases o with
        | lst ds =>
          simp only at e ⊢
          cases q3 : reifs (heapX x j M) ds with
          | none => rw [q3] at e; cases e
          | some ps => rw [q3] at e; rw [reifs_mono (heapX_D (by omega)) ds q3]; exact e
        | dct kvs =>
          simp only at e ⊢
          cases q3 : reifs (heapX x j M) (kvs.map (·.2)) with
          | none => rw [q3] at e; cases e
          | some ps => rw [q3] at e; rw [reifs_mono (heapX_D (by omega)) _ q3]; exact e
        | _ => cases e
/-- d is data, read as p, places within one another at most j deep -/
def Th (x : Nat → Bool) (j : Nat) (M : Mem) (d : D) (p : PyData) : Prop := reif (heapX x j M) d = some p
def Ths (x : Nat → Bool) (j : Nat) (M : Mem) (ds : List D) (ps : List PyData) : Prop := reifs (heapX x j M) ds = some ps
section
variable {x : Nat → Bool} {j j' : Nat} {M M' : Mem} {d : D} {p : PyData} {ds es : List D} {ps qs : List PyData}
theorem Th.kp (h : Th x j M d p) (k : Kp (Nx x) M M') (l : j ≤ j' := by exact Nat.le_refl _) : Th x j' M' d p := reif_mono (heapX_kp k l) d h
theorem Ths.kp (h : Ths x j M ds ps) (k : Kp (Nx x) M M') (l : j ≤ j' := by exact Nat.le_refl _) : Ths x j' M' ds ps := reifs_mono (heapX_kp k l) ds h
theorem Th.kp0 (h : Th x j M d p) (k : Kp N0 M M') : Th x j M' d p := h.kp k.of0
theorem Ths.kp0 (h : Ths x j M ds ps) (k : Kp N0 M M') : Ths x j M' ds ps := h.kp k.of0
theorem Th.up (h : Th x j M d p) (l : j ≤ j') : Th x j' M d p := h.kp (Kp.refl M) l
theorem Ths.up (h : Ths x j M ds ps) (l : j ≤ j') : Ths x j' M ds ps := h.kp (Kp.refl M) l
theorem Th.py (h : Th x j M d p) (l : j ≤ 6) : pyD M d = some p := reif_mono (heapX_D l) d h
theorem Ths.length (h : Ths x j M ds ps) : ps.length = ds.length := reifs_len h
theorem ths_nil : Ths x j M [] [] := by unfold Ths reifs; rfl
theorem ths_cons (h : Th x j M d p) (t : Ths x j M ds ps) : Ths x j M (d :: ds) (p :: ps) := by
  unfold Ths reifs
  rw [show reif (heapX x j M) d = some p from h, show reifs (heapX x j M) ds = some ps from t]; rfl
theorem Ths.uncons {qs : List PyData} (h : Ths x j M (d :: ds) qs) : ∃ p ps, qs = p :: ps ∧ Th x j M d p ∧ Ths x j M ds ps := by
  unfold Ths reifs at h
  cases q : reif (heapX x j M) d with
  | none => rw [q] at h; cases h
  | some p =>
    cases q2 : reifs (heapX x j M) ds with
    | none => rw [q, q2] at h; cases h
    | some ps => rw [q, q2] at h; cases h; exact ⟨p, ps, rfl, q, q2⟩
theorem Ths.nil_inv {qs : List PyData} (h : Ths x j M [] qs) : qs = [] := by unfold Ths reifs at h; cases h; rfl
theorem th_tup (h : Ths x j M ds ps) : Th x j M (.tup ds) (.tuple ps) := by
  unfold Th reif
  rw [show reifs (heapX x j M) ds = some ps from h]; rfl
theorem Th.tup_inv (h : Th x j M (.tup ds) p) : ∃ ps, p = .tuple ps ∧ Ths x j M ds ps := by
  unfold Th reif at h
  cases q : reifs (heapX x j M) ds with
  | none => rw [q] at h; cases h
  | some ps => rw [q] at h; cases h; exact ⟨ps, rfl, q⟩
theorem Th.loc_inv {n : Nat} (h : Th x j M (.loc n) p) : ∃ ds ps j0, j = j0 + 1 ∧ ¬ x n = true ∧ M[n]? = some (.lst ds) ∧ Ths x j0 M ds ps ∧ p = .list ps := by
  unfold Th reif at h
  obtain ⟨e, xs, rfl⟩ := lstP_some h
  cases j with
  | zero => unfold heapX at e; cases e
  | succ j =>
    unfold heapX at e
    split at e
    · cases e
    · rename_i hx
      split at e
      · rename_i ds q
        cases q2 : reifs (heapX x j M) ds with
        | none => rw [q2] at e; cases e
        | some ps => rw [q2] at e; cases e; exact ⟨ds, _, j, rfl, hx, q, q2, rfl⟩
      · rename_i ds q
        cases q2 : reifs (heapX x j M) (ds.map (·.2)) with
        | none => rw [q2] at e; cases e
        | some ps => rw [q2] at e; cases e
      · cases e
theorem Th.obj_inv {n : Nat} (h : Th x j M (.obj n) p) : ∃ kvs ps j0, j = j0 + 1 ∧ ¬ x n = true ∧ M[n]? = some (.dct kvs) ∧ Ths x j0 M (kvs.map (·.2)) ps ∧ p = .dict ((kvs.map fun kv => keyP kv.1).zip ps) := by
  unfold Th reif at h
  obtain ⟨e, xs, rfl⟩ := dctP_some h
  cases j with
  | zero => unfold heapX at e; cases e
  | succ j =>
    unfold heapX at e
    split at e
    · cases e
    · rename_i hx
      split at e
      · rename_i ds q
        cases q2 : reifs (heapX x j M) ds with
        | none => rw [q2] at e; cases e
        | some ps => rw [q2] at e; cases e
      · rename_i kvs q
        cases q2 : reifs (heapX x j M) (kvs.map (·.2)) with
        | none => rw [q2] at e; cases e
        | some ps =>
          rw [q2] at e
          simp only [Option.map_some, Option.some.injEq] at e
          exact ⟨kvs, ps, j, rfl, hx, q, q2, e.symm⟩
      · cases e
theorem Th.tuple_inv (h : Th x j M d (.tuple ps)) : ∃ ds, d = .tup ds ∧ Ths x j M ds ps := by
  cases d with
  | tup ds => obtain ⟨qs, e, h⟩ := h.tup_inv; cases e; exact ⟨ds, rfl, h⟩
  | loc n => obtain ⟨_, _, _, _, _, _, _, e⟩ := h.loc_inv; cases e
  | obj n => obtain ⟨_, _, _, _, _, _, _, e⟩ := h.obj_inv; cases e
  | _ => unfold Th reif at h; cases h
theorem Th.flat_inv (h : Th x j M d p) : (∀ i, p = .int i → d = .int i) ∧ (∀ i, p = .str i → d = .str i) ∧ (∀ i, p = .bool i → d = .bl i) ∧ (p = .none → d = .non) := by
  cases d with
  | tup ds => obtain ⟨qs, e, h⟩ := h.tup_inv; cases e; exact ⟨nofun, nofun, nofun, nofun⟩
  | loc n => obtain ⟨_, _, _, _, _, _, _, e⟩ := h.loc_inv; cases e; exact ⟨nofun, nofun, nofun, nofun⟩
  | obj n => obtain ⟨_, _, _, _, _, _, _, e⟩ := h.obj_inv; cases e; exact ⟨nofun, nofun, nofun, nofun⟩
  | _ => unfold Th reif at h; cases h; exact ⟨(fun _ z => by cases z <;> rfl), (fun _ z => by cases z <;> rfl), (fun _ z => by cases z <;> rfl), (fun z => by cases z <;> rfl)⟩
theorem th_int {i : Int} : Th x j M (.int i) (.int i) := rfl
theorem th_str {i : Str} : Th x j M (.str i) (.str i) := rfl
theorem th_bl {i : Bool} : Th x j M (.bl i) (.bool i) := rfl
theorem th_non : Th x j M .non .none := rfl
theorem th_lst {n : Nat} (h : M[n]? = some (.lst ds)) (hx : ¬ x n = true) (t : Ths x j M ds ps) : Th x (j + 1) M (.loc n) (.list ps) := by
  unfold Th reif heapX
  rw [if_neg hx, h]
  simp only
  rw [show reifs (heapX x j M) ds = some ps from t]; rfl
theorem th_dct {n : Nat} {kvs : List (Key × D)} (h : M[n]? = some (.dct kvs)) (hx : ¬ x n = true) (t : Ths x j M (kvs.map (·.2)) ps) : Th x (j + 1) M (.obj n) (.dict ((kvs.map fun kv => keyP kv.1).zip ps)) := by
  unfold Th reif heapX
  rw [if_neg hx, h]
  simp only
  rw [show reifs (heapX x j M) (kvs.map (·.2)) = some ps from t]; rfl
theorem th_nul (h : reif nul d = some p) : Th x j M d p := reif_nul d h
theorem Ths.get (h : Ths x j M ds ps) : ∀ {i : Nat} {d : D}, ds[i]? = some d → ∃ p, ps[i]? = some p ∧ Th x j M d p := by
  induction ds generalizing ps with
  | nil => intro i d e; simp at e
  | cons a ds ih =>
    intro i d e
    obtain ⟨p, ps', rfl, h1, h2⟩ := h.uncons
    cases i with
    | zero => simp at e; subst e; exact ⟨p, rfl, h1⟩
    | succ i => obtain ⟨q, e1, e2⟩ := ih h2 (by simpa using e); exact ⟨q, by simpa using e1, e2⟩
theorem Ths.mem (h : Ths x j M ds ps) {d : D} (m : d ∈ ds) : ∃ p, p ∈ ps ∧ Th x j M d p := by
  obtain ⟨i, e⟩ := List.getElem?_of_mem m
  obtain ⟨p, e1, e2⟩ := h.get e
  exact ⟨p, List.mem_of_getElem? e1, e2⟩
theorem Ths.append (h : Ths x j M ds ps) (t : Ths x j M es qs) : Ths x j M (ds ++ es) (ps ++ qs) := by
  induction ds generalizing ps with
  | nil => cases h.nil_inv; exact t
  | cons a ds ih =>
    obtain ⟨p, ps', rfl, h1, h2⟩ := h.uncons
    exact ths_cons h1 (ih h2)
theorem Ths.take (h : Ths x j M ds ps) (n : Nat) : Ths x j M (ds.take n) (ps.take n) := by
  induction ds generalizing ps n with
  | nil => cases h.nil_inv; simp; exact ths_nil
  | cons a ds ih =>
    obtain ⟨p, ps', rfl, h1, h2⟩ := h.uncons
    cases n with
    | zero => exact ths_nil
    | succ n => exact ths_cons h1 (ih h2 n)
theorem Ths.drop (h : Ths x j M ds ps) (n : Nat) : Ths x j M (ds.drop n) (ps.drop n) := by
  induction ds generalizing ps n with
  | nil => cases h.nil_inv; simp; exact ths_nil
  | cons a ds ih =>
    obtain ⟨p, ps', rfl, h1, h2⟩ := h.uncons
    cases n with
    | zero => exact ths_cons h1 h2
    | succ n => exact ih h2 n
theorem Ths.reverse (h : Ths x j M ds ps) : Ths x j M ds.reverse ps.reverse := by
  induction ds generalizing ps with
  | nil => cases h.nil_inv; exact ths_nil
  | cons a ds ih =>
    obtain ⟨p, ps', rfl, h1, h2⟩ := h.uncons
    rw [List.reverse_cons, List.reverse_cons]
    exact (ih h2).append (ths_cons h1 ths_nil)
theorem Ths.rep (h : Ths x j M ds ps) (k : Nat) : Ths x j M (List.replicate k ds).flatten (List.replicate k ps).flatten := by
  induction k with
  | zero => exact ths_nil
  | succ k ih => simp only [List.replicate_succ, List.flatten_cons]; exact h.append ih
end
/-! ### sizes -/
mutual
/-- a bound of the text's length -/
def wt : PyData → Nat
  | .none => 4
  | .bool _ => 5
  | .int _ => 800
  | .str s => (reprText s).length
  | .list xs => wts xs + 4
  | .tuple xs => wts xs + 4
  | .dict kvs => wtKv kvs + 4
def wts : List PyData → Nat
  | [] => 0
  | x :: xs => wt x + 2 + wts xs
def wtKv : List (PyData × PyData) → Nat
  | [] => 0
  | (k, v) :: r => wt k + wt v + 4 + wtKv r
end
theorem join_len (sep : Str) (h : sep.length ≤ 2) : ∀ ts : List Str, (Str.join sep ts).length ≤ (ts.map (·.length)).sum + 2 * ts.length
  | [] => by show (0 : Nat) ≤ _; omega
  | [x] => by show x.length ≤ _; simp
  | x :: y :: r => by
    have ih := join_len sep h (y :: r)
    show (x ++ sep ++ Str.join sep (y :: r)).length ≤ _
    rw [strLen_append, strLen_append]
    simp only [List.map_cons, List.sum_cons, List.length_cons] at ih ⊢
    omega
theorem dictText_len (ts : List Str) : (dictText ts).length ≤ (ts.map (·.length)).sum + 2 * ts.length + 2 := by
  have := join_len ", " (by decide) ts
  unfold dictText
  rw [strLen_append, strLen_append]
  have e1 : ("{" : Str).length = 1 := rfl
  have e2 : ("}" : Str).length = 1 := rfl
  omega
def lim : Nat := 10 ^ 790
mutual
/-- all ints are at most B in size -/
def ib (B : Nat) : PyData → Bool
  | .int i => decide (i.natAbs ≤ B)
  | .list xs => ibs B xs
  | .tuple xs => ibs B xs
  | .dict kvs => ibKv B kvs
  | _ => true
def ibs (B : Nat) : List PyData → Bool
  | [] => true
  | x :: xs => ib B x && ibs B xs
def ibKv (B : Nat) : List (PyData × PyData) → Bool
  | [] => true
  | (k, v) :: r => ib B k && ib B v && ibKv B r
end
section
variable {B : Nat} (hB : B < lim)
include hB
mutual
theorem ib_tame : ∀ p : PyData, ib B p = true → tame p = true
  | .none, _ => rfl
  | .bool _, _ => rfl
  | .str _, _ => rfl
  | .int i, h => by
    simp only [ib, decide_eq_true_eq] at h
    simp only [tame, decide_eq_true_eq]
    exact Nat.lt_of_lt_of_le (Nat.lt_of_le_of_lt h hB) (Nat.pow_le_pow_right (by decide) (by decide))
  | .list xs, h => by simp only [tame]; exact ib_tames xs (by simpa only [ib] using h)
  | .tuple xs, h => by simp only [tame]; exact ib_tames xs (by simpa only [ib] using h)
  | .dict kvs, h => by simp only [tame]; exact ib_tameKv kvs (by simpa only [ib] using h)
theorem ib_tames : ∀ ps : List PyData, ibs B ps = true → tames ps = true
  | [], _ => rfl
  | p :: ps, h => by
    simp only [ibs, Bool.and_eq_true] at h
    simp only [tames, ib_tame p h.1, ib_tames ps h.2, Bool.and_self]
theorem ib_tameKv : ∀ kvs : List (PyData × PyData), ibKv B kvs = true → tameKv kvs = true
  | [], _ => rfl
  | (k, v) :: r, h => by
    simp only [ibKv, Bool.and_eq_true] at h
    simp only [tameKv, ib_tame k h.1.1, ib_tame v h.1.2, ib_tameKv r h.2, Bool.and_self]
end
mutual
theorem shown_wt : ∀ p : PyData, ib B p = true → p.shown.length ≤ wt p
  | .none, _ => by simp only [PyData.shown, wt]; decide
  | .bool b, _ => by simp only [PyData.shown, wt]; cases b <;> decide
  | .int i, h => by
    simp only [ib, decide_eq_true_eq] at h
    simp only [wt]
    have := int_shown (i := i) (k := 790) (by decide) (Nat.lt_of_le_of_lt h hB)
    omega
  | .str s, _ => by simp only [PyData.shown, wt]; exact Nat.le_refl _
  | .list xs, h => by
    have h1 := listText_len_le (PyData.shownAll xs)
    have h2 := PyData.shownAll_length xs
    have h3 := shown_wts xs (by simpa only [ib] using h)
    simp only [PyData.shown, wt]; omega
  | .tuple xs, h => by
    have h1 := tupleText_len_le (PyData.shownAll xs)
    have h2 := PyData.shownAll_length xs
    have h3 := shown_wts xs (by simpa only [ib] using h)
    simp only [PyData.shown, wt]; omega
  | .dict kvs, h => by
    have h1 := dictText_len (PyData.shownKv kvs)
    have h3 := shown_wtKv kvs (by simpa only [ib] using h)
    simp only [PyData.shown, wt]; omega
theorem shown_wts : ∀ ps : List PyData, ibs B ps = true → ((PyData.shownAll ps).map (·.length)).sum + 2 * ps.length ≤ wts ps
  | [], _ => by simp [PyData.shownAll, wts]
  | p :: ps, h => by
    simp only [ibs, Bool.and_eq_true] at h
    have h1 := shown_wt p h.1
    have h2 := shown_wts ps h.2
    simp only [PyData.shownAll, wts, List.map_cons, List.sum_cons, List.length_cons]; omega
theorem shown_wtKv : ∀ kvs : List (PyData × PyData), ibKv B kvs = true → ((PyData.shownKv kvs).map (·.length)).sum + 2 * (PyData.shownKv kvs).length ≤ wtKv kvs
  | [], _ => by simp [PyData.shownKv, wtKv]
  | (k, v) :: r, h => by
    simp only [ibKv, Bool.and_eq_true] at h
    have h1 := shown_wt k h.1.1
    have h2 := shown_wt v h.1.2
    have h3 := shown_wtKv r h.2
    simp only [PyData.shownKv, wtKv, List.map_cons, List.sum_cons, List.length_cons, strLen_append]
    have : (": " : Str).length = 2 := rfl
    omega
end
end
mutual
theorem ib_mono {B C : Nat} (l : B ≤ C) : ∀ p : PyData, ib B p = true → ib C p = true
  | .none, _ => rfl
  | .bool _, _ => rfl
  | .str _, _ => rfl
  | .int i, h => by simp only [ib, decide_eq_true_eq] at h ⊢; omega
  | .list xs, h => by simp only [ib] at h ⊢; exact ibs_mono l xs h
  | .tuple xs, h => by simp only [ib] at h ⊢; exact ibs_mono l xs h
  | .dict kvs, h => by simp only [ib] at h ⊢; exact ibKv_mono l kvs h
theorem ibs_mono {B C : Nat} (l : B ≤ C) : ∀ ps : List PyData, ibs B ps = true → ibs C ps = true
  | [], _ => rfl
  | p :: ps, h => by
    simp only [ibs, Bool.and_eq_true] at h ⊢
    exact ⟨ib_mono l p h.1, ibs_mono l ps h.2⟩
theorem ibKv_mono {B C : Nat} (l : B ≤ C) : ∀ kvs : List (PyData × PyData), ibKv B kvs = true → ibKv C kvs = true
  | [], _ => rfl
  | (k, v) :: r, h => by
    simp only [ibKv, Bool.and_eq_true] at h ⊢
    exact ⟨⟨ib_mono l k h.1.1, ib_mono l v h.1.2⟩, ibKv_mono l r h.2⟩
end
theorem wts_append (a b : List PyData) : wts (a ++ b) = wts a + wts b := by
  induction a with
  | nil => simp [wts]
  | cons x a ih => simp only [List.cons_append, wts, ih]; omega
theorem wts_take (a : List PyData) (n : Nat) : wts (a.take n) + wts (a.drop n) = wts a := by rw [← wts_append, List.take_append_drop]
theorem wts_reverse (a : List PyData) : wts a.reverse = wts a := by
  induction a with
  | nil => rfl
  | cons x a ih => rw [List.reverse_cons, wts_append, ih]; simp only [wts]; omega
theorem wts_mem {p : PyData} {ps : List PyData} (h : p ∈ ps) : wt p + 2 ≤ wts ps := by
  induction ps with
  | nil => cases h
  | cons a ps ih =>
    simp only [wts]
    rcases List.mem_cons.mp h with rfl | h
    · omega
    · have := ih h; omega
theorem wts_len (ps : List PyData) : 2 * ps.length ≤ wts ps := by
  induction ps with
  | nil => simp [wts]
  | cons a ps ih => simp only [wts, List.length_cons]; omega
theorem wts_rep (ps : List PyData) (k : Nat) : wts (List.replicate k ps).flatten = k * wts ps := by
  induction k with
  | zero => simp [wts]
  | succ k ih => simp only [List.replicate_succ, List.flatten_cons, wts_append, ih, Nat.succ_mul]; omega
/-- data with ints at most B, of depth at most k, weight at most n -/
structure Fine (B k n : Nat) (p : PyData) : Prop where
  ib : ib B p = true
  dp : p.depth ≤ k
  wt : wt p ≤ n
structure Fines (B k n : Nat) (ps : List PyData) : Prop where
  ib : ibs B ps = true
  dp : PyData.depthAll ps ≤ k
  wt : wts ps ≤ n
theorem ibs_append {B : Nat} {a b : List PyData} : ibs B (a ++ b) = (ibs B a && ibs B b) := by
  induction a with
  | nil => rfl
  | cons x a ih => simp only [List.cons_append, ibs, ih, Bool.and_assoc]
theorem ibs_mem {B : Nat} {ps : List PyData} (h : ibs B ps = true) : ∀ p ∈ ps, ib B p = true := by
  induction ps with
  | nil => nofun
  | cons a ps ih =>
    simp only [ibs, Bool.and_eq_true] at h
    intro p m
    rcases List.mem_cons.mp m with rfl | m
    · exact h.1
    · exact ih h.2 p m
theorem depthAll_append {a b : List PyData} : PyData.depthAll (a ++ b) = max (PyData.depthAll a) (PyData.depthAll b) := by
  induction a with
  | nil => simp [PyData.depthAll]
  | cons x a ih => simp only [List.cons_append, PyData.depthAll, ih, Nat.max_assoc]
theorem depthAll_mem {ps : List PyData} : ∀ p ∈ ps, p.depth ≤ PyData.depthAll ps := by
  induction ps with
  | nil => nofun
  | cons a ps ih =>
    intro p m
    simp only [PyData.depthAll]
    rcases List.mem_cons.mp m with rfl | m
    · omega
    · have := ih p m; omega
section
variable {B B' k n k' n' : Nat} {p : PyData} {ps qs : List PyData}
theorem Fine.mono (h : Fine B k n p) (hB : B ≤ B') (hk : k ≤ k') (hn : n ≤ n') : Fine B' k' n' p := ⟨ib_mono hB p h.ib, Nat.le_trans h.dp hk, Nat.le_trans h.wt hn⟩
theorem Fines.mono (h : Fines B k n ps) (hB : B ≤ B') (hk : k ≤ k') (hn : n ≤ n') : Fines B' k' n' ps := ⟨ibs_mono hB ps h.ib, Nat.le_trans h.dp hk, Nat.le_trans h.wt hn⟩
theorem Fine.tuple (h : Fines B k n ps) : Fine B (k + 1) (n + 4) (.tuple ps) := ⟨by simpa only [G.ib] using h.ib, by simp only [PyData.depth]; have := h.dp; omega, by simp only [G.wt]; have := h.wt; omega⟩
theorem Fine.list (h : Fines B k n ps) : Fine B (k + 1) (n + 4) (.list ps) := ⟨by simpa only [G.ib] using h.ib, by simp only [PyData.depth]; have := h.dp; omega, by simp only [G.wt]; have := h.wt; omega⟩
theorem Fine.tuple_inv (h : Fine B k n (.tuple ps)) : ∃ k' n', k = k' + 1 ∧ n = n' + 4 ∧ Fines B k' n' ps := by
  have a := h.ib; have b := h.dp; have c := h.wt
  simp only [G.ib, PyData.depth, G.wt] at a b c
  exact ⟨k - 1, n - 4, by omega, by omega, ⟨a, by omega, by omega⟩⟩
theorem fines_nil : Fines B 0 0 [] := ⟨rfl, Nat.le_refl _, Nat.le_refl _⟩
theorem Fines.append (h : Fines B k n ps) (t : Fines B k' n' qs) : Fines B (max k k') (n + n') (ps ++ qs) := ⟨by rw [ibs_append, h.ib, t.ib]; rfl, by rw [depthAll_append]; have := h.dp; have := t.dp; omega, by rw [wts_append]; have := h.wt; have := t.wt; omega⟩
theorem Fines.cons (h : Fine B k n p) (t : Fines B k' n' ps) : Fines B (max k k') (n + 2 + n') (p :: ps) := ⟨by simp only [ibs, h.ib, t.ib]; rfl, by simp only [PyData.depthAll]; have := h.dp; have := t.dp; omega, by simp only [wts]; have := h.wt; have := t.wt; omega⟩
theorem Fines.one (h : Fine B k n p) : Fines B k (n + 2) [p] := ⟨by simp only [ibs, h.ib]; rfl, by simp only [PyData.depthAll]; have := h.dp; omega, by simp only [wts]; have := h.wt; omega⟩
theorem Fines.mem (h : Fines B k n ps) (m : p ∈ ps) : Fine B k (n - 2) p := ⟨ibs_mem h.ib p m, Nat.le_trans (depthAll_mem p m) h.dp, by have := wts_mem m; have := h.wt; omega⟩
/-- a part of a list, of its own weight -/
theorem Fines.sub (h : Fines B k n ps) (l : ∀ p ∈ qs, p ∈ ps) : Fines B k (wts qs) qs := by
  refine ⟨?_, ?_, Nat.le_refl _⟩
  · have : ∀ p ∈ qs, G.ib B p = true := fun p m => ibs_mem h.ib p (l p m)
    clear l
    induction qs with
    | nil => rfl
    | cons a qs ih => simp only [ibs, this a (by simp), ih fun p m => this p (List.mem_cons_of_mem _ m), Bool.and_self]
  · have : ∀ p ∈ qs, p.depth ≤ k := fun p m => Nat.le_trans (depthAll_mem p (l p m)) h.dp
    clear l
    induction qs with
    | nil => exact Nat.zero_le _
    | cons a qs ih => simp only [PyData.depthAll]; exact Nat.max_le.mpr ⟨this a (by simp), ih fun p m => this p (List.mem_cons_of_mem _ m)⟩
end
/-- a thing: data in the memory, fine -/
def Tng (x : Nat → Bool) (j B k n : Nat) (M : Mem) (d : D) : Prop := ∃ p, Th x j M d p ∧ Fine B k n p
theorem Tng.kp {x : Nat → Bool} {j j' B k n : Nat} {M M' : Mem} {d : D} (h : Tng x j B k n M d) (kk : Kp (Nx x) M M') (l : j ≤ j' := by exact Nat.le_refl _) : Tng x j' B k n M' d := let ⟨p, t, f⟩ := h; ⟨p, t.kp kk l, f⟩
theorem Tng.kp0 {x : Nat → Bool} {j B k n : Nat} {M M' : Mem} {d : D} (h : Tng x j B k n M d) (kk : Kp N0 M M') : Tng x j B k n M' d := h.kp kk.of0
theorem Tng.mono {x : Nat → Bool} {j j' B B' k k' n n' : Nat} {M : Mem} {d : D} (h : Tng x j B k n M d) (hj : j ≤ j') (hB : B ≤ B') (hk : k ≤ k') (hn : n ≤ n') : Tng x j' B' k' n' M d := let ⟨p, t, f⟩ := h; ⟨p, t.up hj, f.mono hB hk hn⟩
/-- p is none of it, nor what is made from now on -/
structure Xs (x : Nat → Bool) (p : Nat) (M : Mem) : Prop where
  pen : x p = true
  fr : ∀ i, M.length ≤ i → ¬ x i = true
theorem Kp.x {x : Nat → Bool} {p : Nat} {M M' : Mem} (h : Kp (N1 p) M M') (hp : x p = true) : Kp (Nx x) M M' := h.weak fun i _ s => by
  have : i = p := s
  subst this; exact hp
theorem Xs.mono {x : Nat → Bool} {p : Nat} {M M' : Mem} (h : Xs x p M) (l : M.length ≤ M'.length) : Xs x p M' := ⟨h.pen, fun i hi => h.fr i (Nat.le_trans l hi)⟩
theorem Xs.kp {S : Nat → Prop} {x : Nat → Bool} {p : Nat} {M M' : Mem} (h : Xs x p M) (l : Kp S M M') : Xs x p M' := h.mono l.1
theorem Tng.kpp {x : Nat → Bool} {p j B k n : Nat} {M M' : Mem} {d : D} (h : Tng x j B k n M d) (hx : x p = true) (kk : Kp (N1 p) M M') : Tng x j B k n M' d := h.kp (kk.x hx)
end G

/-! N1: things: types, repr; what would be the parts of an expression. -/
namespace G
open PySem L2
def tyP : PyData → String
  | .none => "NoneType" | .bool _ => "bool" | .int _ => "int" | .str _ => "str" | .list _ => "list" | .tuple _ => "tuple" | .dict _ => "dict"
def pTup : PyData → Bool | .tuple _ => true | _ => false
def pStr : PyData → Bool | .str _ => true | _ => false
def pInt : PyData → Bool | .int _ => true | _ => false
def pBool : PyData → Bool | .bool _ => true | _ => false
section
variable {x : Nat → Bool} {j : Nat} {M : Mem} {d : D} {p : PyData}
theorem Th.ty (h : Th x j M d p) : tyD d M = some (tyP p) := by
  cases d with
  | tup ds => obtain ⟨ps, rfl, _⟩ := h.tup_inv; rfl
  | loc n => obtain ⟨ds, ps, j0, rfl, hx, q, _, rfl⟩ := h.loc_inv; simp only [tyD, q, tyP]
  | obj n => obtain ⟨ds, ps, j0, rfl, hx, q, _, rfl⟩ := h.obj_inv; simp only [tyD, q, tyP]
  | _ => unfold Th reif at h; cases h; rfl
theorem isi_th (T : String) (h : Th x j M d p) : bIsi T [d] M = .ok (.bl (tyP p == T || (tyP p == "bool" && T == "int"))) M := by simp only [bIsi, h.ty]
theorem isi_tup (h : Th x j M d p) : bIsi "tuple" [d] M = .ok (.bl (pTup p)) M := by rw [isi_th _ h]; cases p <;> rfl
theorem isi_str (h : Th x j M d p) : bIsi "str" [d] M = .ok (.bl (pStr p)) M := by rw [isi_th _ h]; cases p <;> rfl
theorem isi_bool (h : Th x j M d p) : bIsi "bool" [d] M = .ok (.bl (pBool p)) M := by rw [isi_th _ h]; cases p <;> rfl
theorem isi_int (h : Th x j M d p) : bIsi "int" [d] M = .ok (.bl (pInt p || pBool p)) M := by rw [isi_th _ h]; cases p <;> rfl
theorem Th.repr {B k n : Nat} (h : Th x j M d p) (hj : j ≤ 6) (f : Fine B k n p) (hB : B < lim) (hk : k ≤ 60) (hn : n ≤ big) : bRepr [d] M = .ok (.str p.shown) M := by
  simp only [bRepr, h.py hj]
  rw [if_pos ⟨ib_tame hB p f.ib, Nat.le_trans f.dp hk, Nat.le_trans (shown_wt hB p f.ib) (Nat.le_trans f.wt hn)⟩]
end
/-! ### integers -/
def btw : PyData → Int → Int → Bool
  | .int i, lo, hi => decide (lo ≤ i) && decide (i ≤ hi)
  | _, _, _ => false
def IsIntT (f : Fn) : Prop := ∀ {x : Nat → Bool} {j : Nat} {M : Mem} {d : D} {p : PyData}, Th x j M d p → f [d] M = .ok (.bl (pInt p)) M
theorem isIntT {f : Fn} (h : ∀ d M, f [d] M = retF (L_isint [some d] M)) : IsIntT f := fun {x j M d p} t => by
  rw [h]
  have h1 := isi_int t
  have h2 := isi_bool t
  cases p <;> (simp only [pInt, pBool, Bool.or_true, Bool.or_false] at h1 h2; simp only [L_isint, bind_ok, bind_ex, outE_ok, outE_ex, retF_nx, retF_rt, retF_xc, x_optR, x_eV, x_eC, x_kB, x_eB, x_eU, x_eF, x_kM, x_eM, x_ift, x_iff, x_eIf, x_kTup, x_kLst, x_eTup, x_eLst, x_aN, x_kCc, x_kC, x_aC, x_tV, x_kCn, x_kCm, x_tCm, x_okB, x_tA, x_tO, x_kN, x_tN, x_tCh, x_kCj, x_kCi, x_kCh, x_eCh, x_kNb, x_kAn, x_kOr, x_kNo, x_eAnd, x_eOr, x_eNot, x_kCl, x_eCall, x_kS2, x_kS1, x_eSl, x_oN, x_asO, x_oS, x_mLoc, x_kML, x_eML, x_kM0, x_kMl0, x_eML0, x_truB, x_truI, x_asB, x_cnx, x_crt, x_cbk, x_cct, x_cxc, x_sSeq, x_sNil, x_sBrk, x_sCnt, x_kEx, x_kSet, x_sEx, x_sSet, x_okO, x_putsN, x_putsC, x_kPar, x_sPar, x_kRet, x_sRet, x_sRetN, x_sIf, x_kSb3, x_kSb2, x_kSb1, x_sSub, x_kAsg, x_sAsg, x_pnm, x_ptp, x_kFor, x_sFor, x_itT, x_iR1, x_kR2, x_iR2, x_iE, x_tY, x_wN, x_wC, List.getElem?_cons_zero, List.getElem?_cons_succ, List.set_cons_zero, List.set_cons_succ, List.append_nil, List.nil_append, List.cons_append, List.length_cons, List.length_nil, Nat.reduceLeDiff, Nat.reduceAdd, Bool.not_true, Bool.not_false, T_ok, x_kMt, x_sMt, x_mtN, x_mtC, x_sWh, true_or, true_and, and_true, if_true, if_false, h1, h2, pInt])
def IsBtwT (f : Fn) : Prop := ∀ {x : Nat → Bool} {j : Nat} {M : Mem} {d : D} {p : PyData} {lo hi : Int}, Th x j M d p → f [d, .int lo, .int hi] M = .ok (.bl (btw p lo hi)) M
theorem isBtwT {f ii : Fn} (hi : IsIntT ii) (h : ∀ d e g M, f [d, e, g] M = retF (L_isbtw ii [some d, some e, some g] M)) : IsBtwT f := fun {x j M d p lo hi'} t => by
  rw [h]
  have h1 := hi t
  cases p with
  | int i =>
    have e := t.flat_inv.1 i rfl
    subst e
    by_cases q : lo ≤ i
    · simp only [L_isbtw, bind_ok, bind_ex, outE_ok, outE_ex, retF_nx, retF_rt, retF_xc, x_optR, x_eV, x_eC, x_kB, x_eB, x_eU, x_eF, x_kM, x_eM, x_ift, x_iff, x_eIf, x_kTup, x_kLst, x_eTup, x_eLst, x_aN, x_kCc, x_kC, x_aC, x_tV, x_kCn, x_kCm, x_tCm, x_okB, x_tA, x_tO, x_kN, x_tN, x_tCh, x_kCj, x_kCi, x_kCh, x_eCh, x_kNb, x_kAn, x_kOr, x_kNo, x_eAnd, x_eOr, x_eNot, x_kCl, x_eCall, x_kS2, x_kS1, x_eSl, x_oN, x_asO, x_oS, x_mLoc, x_kML, x_eML, x_kM0, x_kMl0, x_eML0, x_truB, x_truI, x_asB, x_cnx, x_crt, x_cbk, x_cct, x_cxc, x_sSeq, x_sNil, x_sBrk, x_sCnt, x_kEx, x_kSet, x_sEx, x_sSet, x_okO, x_putsN, x_putsC, x_kPar, x_sPar, x_kRet, x_sRet, x_sRetN, x_sIf, x_kSb3, x_kSb2, x_kSb1, x_sSub, x_kAsg, x_sAsg, x_pnm, x_ptp, x_kFor, x_sFor, x_itT, x_iR1, x_kR2, x_iR2, x_iE, x_tY, x_wN, x_wC, List.getElem?_cons_zero, List.getElem?_cons_succ, List.set_cons_zero, List.set_cons_succ, List.append_nil, List.nil_append, List.cons_append, List.length_cons, List.length_nil, Nat.reduceLeDiff, Nat.reduceAdd, Bool.not_true, Bool.not_false, T_ok, x_kMt, x_sMt, x_mtN, x_mtC, x_sWh, true_or, true_and, and_true, if_true, if_false, h1, pInt, dCmpI, q, decide_true, Bool.true_and, btw]
    · simp only [L_isbtw, bind_ok, bind_ex, outE_ok, outE_ex, retF_nx, retF_rt, retF_xc, x_optR, x_eV, x_eC, x_kB, x_eB, x_eU, x_eF, x_kM, x_eM, x_ift, x_iff, x_eIf, x_kTup, x_kLst, x_eTup, x_eLst, x_aN, x_kCc, x_kC, x_aC, x_tV, x_kCn, x_kCm, x_tCm, x_okB, x_tA, x_tO, x_kN, x_tN, x_tCh, x_kCj, x_kCi, x_kCh, x_eCh, x_kNb, x_kAn, x_kOr, x_kNo, x_eAnd, x_eOr, x_eNot, x_kCl, x_eCall, x_kS2, x_kS1, x_eSl, x_oN, x_asO, x_oS, x_mLoc, x_kML, x_eML, x_kM0, x_kMl0, x_eML0, x_truB, x_truI, x_asB, x_cnx, x_crt, x_cbk, x_cct, x_cxc, x_sSeq, x_sNil, x_sBrk, x_sCnt, x_kEx, x_kSet, x_sEx, x_sSet, x_okO, x_putsN, x_putsC, x_kPar, x_sPar, x_kRet, x_sRet, x_sRetN, x_sIf, x_kSb3, x_kSb2, x_kSb1, x_sSub, x_kAsg, x_sAsg, x_pnm, x_ptp, x_kFor, x_sFor, x_itT, x_iR1, x_kR2, x_iR2, x_iE, x_tY, x_wN, x_wC, List.getElem?_cons_zero, List.getElem?_cons_succ, List.set_cons_zero, List.set_cons_succ, List.append_nil, List.nil_append, List.cons_append, List.length_cons, List.length_nil, Nat.reduceLeDiff, Nat.reduceAdd, Bool.not_true, Bool.not_false, T_ok, x_kMt, x_sMt, x_mtN, x_mtC, x_sWh, true_or, true_and, and_true, if_true, if_false, h1, pInt, dCmpI, q, decide_false, Bool.false_and, btw]
  | _ => simp only [pInt] at h1; simp only [L_isbtw, bind_ok, bind_ex, outE_ok, outE_ex, retF_nx, retF_rt, retF_xc, x_optR, x_eV, x_eC, x_kB, x_eB, x_eU, x_eF, x_kM, x_eM, x_ift, x_iff, x_eIf, x_kTup, x_kLst, x_eTup, x_eLst, x_aN, x_kCc, x_kC, x_aC, x_tV, x_kCn, x_kCm, x_tCm, x_okB, x_tA, x_tO, x_kN, x_tN, x_tCh, x_kCj, x_kCi, x_kCh, x_eCh, x_kNb, x_kAn, x_kOr, x_kNo, x_eAnd, x_eOr, x_eNot, x_kCl, x_eCall, x_kS2, x_kS1, x_eSl, x_oN, x_asO, x_oS, x_mLoc, x_kML, x_eML, x_kM0, x_kMl0, x_eML0, x_truB, x_truI, x_asB, x_cnx, x_crt, x_cbk, x_cct, x_cxc, x_sSeq, x_sNil, x_sBrk, x_sCnt, x_kEx, x_kSet, x_sEx, x_sSet, x_okO, x_putsN, x_putsC, x_kPar, x_sPar, x_kRet, x_sRet, x_sRetN, x_sIf, x_kSb3, x_kSb2, x_kSb1, x_sSub, x_kAsg, x_sAsg, x_pnm, x_ptp, x_kFor, x_sFor, x_itT, x_iR1, x_kR2, x_iR2, x_iE, x_tY, x_wN, x_wC, List.getElem?_cons_zero, List.getElem?_cons_succ, List.set_cons_zero, List.set_cons_succ, List.append_nil, List.nil_append, List.cons_append, List.length_cons, List.length_nil, Nat.reduceLeDiff, Nat.reduceAdd, Bool.not_true, Bool.not_false, T_ok, x_kMt, x_sMt, x_mtN, x_mtC, x_sWh, true_or, true_and, and_true, if_true, if_false, h1, btw]
def L_lwhole : LS :=
  (sRet ((eAnd (eF (bIsi "int") (aC (eV 0) aN)) (eAnd (eNot (eF (bIsi "bool") (aC (eV 0) aN))) (eCh (dCmpI fun i j => decide (i ≤ j)) (dCmpI fun i j => decide (i ≤ j)) (eV 1) (eV 0) (eV 2))))))
theorem isLwhole {f : Fn} (h : ∀ d e g M, f [d, e, g] M = retF (L_lwhole [some d, some e, some g] M)) : IsBtwT f := fun {x j M d p lo hi'} t => by
  rw [h]
  have h1 := isi_int t
  have h2 := isi_bool t
  cases p with
  | int i =>
    have e := t.flat_inv.1 i rfl
    subst e
    simp only [pInt, pBool, Bool.or_true, Bool.or_false] at h1 h2
    by_cases q : lo ≤ i
    · simp only [L_lwhole, bind_ok, bind_ex, outE_ok, outE_ex, retF_nx, retF_rt, retF_xc, x_optR, x_eV, x_eC, x_kB, x_eB, x_eU, x_eF, x_kM, x_eM, x_ift, x_iff, x_eIf, x_kTup, x_kLst, x_eTup, x_eLst, x_aN, x_kCc, x_kC, x_aC, x_tV, x_kCn, x_kCm, x_tCm, x_okB, x_tA, x_tO, x_kN, x_tN, x_tCh, x_kCj, x_kCi, x_kCh, x_eCh, x_kNb, x_kAn, x_kOr, x_kNo, x_eAnd, x_eOr, x_eNot, x_kCl, x_eCall, x_kS2, x_kS1, x_eSl, x_oN, x_asO, x_oS, x_mLoc, x_kML, x_eML, x_kM0, x_kMl0, x_eML0, x_truB, x_truI, x_asB, x_cnx, x_crt, x_cbk, x_cct, x_cxc, x_sSeq, x_sNil, x_sBrk, x_sCnt, x_kEx, x_kSet, x_sEx, x_sSet, x_okO, x_putsN, x_putsC, x_kPar, x_sPar, x_kRet, x_sRet, x_sRetN, x_sIf, x_kSb3, x_kSb2, x_kSb1, x_sSub, x_kAsg, x_sAsg, x_pnm, x_ptp, x_kFor, x_sFor, x_itT, x_iR1, x_kR2, x_iR2, x_iE, x_tY, x_wN, x_wC, List.getElem?_cons_zero, List.getElem?_cons_succ, List.set_cons_zero, List.set_cons_succ, List.append_nil, List.nil_append, List.cons_append, List.length_cons, List.length_nil, Nat.reduceLeDiff, Nat.reduceAdd, Bool.not_true, Bool.not_false, T_ok, x_kMt, x_sMt, x_mtN, x_mtC, x_sWh, true_or, true_and, and_true, if_true, if_false, h1, h2, dCmpI, q, decide_true, Bool.true_and, btw]
    · simp only [L_lwhole, bind_ok, bind_ex, outE_ok, outE_ex, retF_nx, retF_rt, retF_xc, x_optR, x_eV, x_eC, x_kB, x_eB, x_eU, x_eF, x_kM, x_eM, x_ift, x_iff, x_eIf, x_kTup, x_kLst, x_eTup, x_eLst, x_aN, x_kCc, x_kC, x_aC, x_tV, x_kCn, x_kCm, x_tCm, x_okB, x_tA, x_tO, x_kN, x_tN, x_tCh, x_kCj, x_kCi, x_kCh, x_eCh, x_kNb, x_kAn, x_kOr, x_kNo, x_eAnd, x_eOr, x_eNot, x_kCl, x_eCall, x_kS2, x_kS1, x_eSl, x_oN, x_asO, x_oS, x_mLoc, x_kML, x_eML, x_kM0, x_kMl0, x_eML0, x_truB, x_truI, x_asB, x_cnx, x_crt, x_cbk, x_cct, x_cxc, x_sSeq, x_sNil, x_sBrk, x_sCnt, x_kEx, x_kSet, x_sEx, x_sSet, x_okO, x_putsN, x_putsC, x_kPar, x_sPar, x_kRet, x_sRet, x_sRetN, x_sIf, x_kSb3, x_kSb2, x_kSb1, x_sSub, x_kAsg, x_sAsg, x_pnm, x_ptp, x_kFor, x_sFor, x_itT, x_iR1, x_kR2, x_iR2, x_iE, x_tY, x_wN, x_wC, List.getElem?_cons_zero, List.getElem?_cons_succ, List.set_cons_zero, List.set_cons_succ, List.append_nil, List.nil_append, List.cons_append, List.length_cons, List.length_nil, Nat.reduceLeDiff, Nat.reduceAdd, Bool.not_true, Bool.not_false, T_ok, x_kMt, x_sMt, x_mtN, x_mtC, x_sWh, true_or, true_and, and_true, if_true, if_false, h1, h2, dCmpI, q, decide_false, Bool.false_and, btw]
  | _ => simp only [pInt, pBool, Bool.or_true, Bool.or_false] at h1 h2; simp only [L_lwhole, bind_ok, bind_ex, outE_ok, outE_ex, retF_nx, retF_rt, retF_xc, x_optR, x_eV, x_eC, x_kB, x_eB, x_eU, x_eF, x_kM, x_eM, x_ift, x_iff, x_eIf, x_kTup, x_kLst, x_eTup, x_eLst, x_aN, x_kCc, x_kC, x_aC, x_tV, x_kCn, x_kCm, x_tCm, x_okB, x_tA, x_tO, x_kN, x_tN, x_tCh, x_kCj, x_kCi, x_kCh, x_eCh, x_kNb, x_kAn, x_kOr, x_kNo, x_eAnd, x_eOr, x_eNot, x_kCl, x_eCall, x_kS2, x_kS1, x_eSl, x_oN, x_asO, x_oS, x_mLoc, x_kML, x_eML, x_kM0, x_kMl0, x_eML0, x_truB, x_truI, x_asB, x_cnx, x_crt, x_cbk, x_cct, x_cxc, x_sSeq, x_sNil, x_sBrk, x_sCnt, x_kEx, x_kSet, x_sEx, x_sSet, x_okO, x_putsN, x_putsC, x_kPar, x_sPar, x_kRet, x_sRet, x_sRetN, x_sIf, x_kSb3, x_kSb2, x_kSb1, x_sSub, x_kAsg, x_sAsg, x_pnm, x_ptp, x_kFor, x_sFor, x_itT, x_iR1, x_kR2, x_iR2, x_iE, x_tY, x_wN, x_wC, List.getElem?_cons_zero, List.getElem?_cons_succ, List.set_cons_zero, List.set_cons_succ, List.append_nil, List.nil_append, List.cons_append, List.length_cons, List.length_nil, Nat.reduceLeDiff, Nat.reduceAdd, Bool.not_true, Bool.not_false, T_ok, x_kMt, x_sMt, x_mtN, x_mtC, x_sWh, true_or, true_and, and_true, if_true, if_false, h1, h2, btw]
/-! ### parts -/
def partsP : PyData → Option (List PyData)
  | .tuple [.str w, a] => if w = "var" then (if btw a 0 2 then some [] else none) else if w = "number" then (if btw a (-1000) 1000 then some [] else none) else if w = "not" then some [a] else none
  | .tuple [.str w, a, b] => if w = "and" ∨ w = "or" ∨ w = "xor" ∨ w = "plus" ∨ w = "minus" then some [a, b] else if w = "shift" then (if btw b 1 4 then some [a] else none) else if w = "times" then (if btw a (-9) 9 then some [b] else none) else none
  | _ => none
def IsPartsT (f : Fn) : Prop := ∀ {x : Nat → Bool} {j : Nat} {M : Mem} {d : D} {p : PyData}, Th x j M d p → (partsP p = none → f [d] M = .ok .non M) ∧ ∀ ks, partsP p = some ks → ∃ ds, f [d] M = .ok (.tup ds) M ∧ ∀ {x : Nat → Bool} {j : Nat} {M : Mem}, Th x j M d p → Ths x j M ds ks
theorem th2 {x : Nat → Bool} {j : Nat} {M : Mem} {a b : D} {pa pb : PyData} (h : Th x j M (.tup [a, b]) (.tuple [pa, pb])) : Th x j M a pa ∧ Th x j M b pb := by
  obtain ⟨ps, e, h⟩ := h.tup_inv
  cases e
  obtain ⟨_, _, e, h1, h⟩ := h.uncons
  cases e
  obtain ⟨_, _, e, h2, h⟩ := h.uncons
  cases e
  exact ⟨h1, h2⟩
theorem th3 {x : Nat → Bool} {j : Nat} {M : Mem} {a b c : D} {pa pb pc : PyData} (h : Th x j M (.tup [a, b, c]) (.tuple [pa, pb, pc])) : Th x j M a pa ∧ Th x j M b pb ∧ Th x j M c pc := by
  obtain ⟨ps, e, h⟩ := h.tup_inv
  cases e
  obtain ⟨_, _, e, h1, h⟩ := h.uncons
  cases e
  obtain ⟨_, _, e, h2, h⟩ := h.uncons
  cases e
  obtain ⟨_, _, e, h3, h⟩ := h.uncons
  cases e
  exact ⟨h1, h2, h3⟩
theorem len_tupN {ds : List D} {M : Mem} : bLen [.tup ds] M = .ok (.int ds.length) M := rfl
theorem in_str2 {w a b : Str} {M : Mem} : dIn false (.str w) (.tup [.str a, .str b]) M = .ok (.bl (a == w || b == w)) M := by simp [dIn, itemsD, flatD, eqF]
theorem in_str5 {w a b c e g : Str} {M : Mem} : dIn false (.str w) (.tup [.str a, .str b, .str c, .str e, .str g]) M = .ok (.bl (a == w || (b == w || (c == w || (e == w || g == w))))) M := by simp [dIn, itemsD, flatD, eqF]
theorem nin23 {n : Int} {M : Mem} : dIn true (.int n) (.tup [.int 2, .int 3]) M = .ok (.bl (!((2 : Int) == n || (3 : Int) == n))) M := by simp [dIn, itemsD, flatD, eqF]
theorem eq_s {w t : Str} {M : Mem} : dEq (.str w) (.str t) M = .ok (.bl (decide (w = t))) M := by
  rw [eq_str]
  by_cases q : w = t
  · subst q; simp
  · simp [q]
theorem eq_i {w t : Int} {M : Mem} : dEq (.int w) (.int t) M = .ok (.bl (decide (w = t))) M := by
  rw [eq_int]
  by_cases q : w = t
  · subst q; simp
  · simp [q]
theorem ne_i {w t : Int} {M : Mem} : dNe (.int w) (.int t) M = .ok (.bl (!decide (w = t))) M := by
  rw [ne_int]
  by_cases q : w = t
  · subst q; simp
  · simp [q, bne]
theorem isPartsT {f isb : Fn} (hb : IsBtwT isb) (h : ∀ d M, f [d] M = retF (L_parts isb [some d, none, none, none] M)) : IsPartsT f := fun {x j M d p} t => by
  rw [h]
  cases d with
  | tup ds =>
    obtain ⟨ps, rfl, ts⟩ := t.tup_inv
    have h1 : bIsi "tuple" [.tup ds] M = .ok (.bl true) M := isi_tt
    match ds, ps, ts with
    | [], _, ts =>
      cases ts.nil_inv
      exact ⟨fun _ => by simp only [L_parts, bind_ok, bind_ex, outE_ok, outE_ex, retF_nx, retF_rt, retF_xc, x_optR, x_eV, x_eC, x_kB, x_eB, x_eU, x_eF, x_kM, x_eM, x_ift, x_iff, x_eIf, x_kTup, x_kLst, x_eTup, x_eLst, x_aN, x_kCc, x_kC, x_aC, x_tV, x_kCn, x_kCm, x_tCm, x_okB, x_tA, x_tO, x_kN, x_tN, x_tCh, x_kCj, x_kCi, x_kCh, x_eCh, x_kNb, x_kAn, x_kOr, x_kNo, x_eAnd, x_eOr, x_eNot, x_kCl, x_eCall, x_kS2, x_kS1, x_eSl, x_oN, x_asO, x_oS, x_mLoc, x_kML, x_eML, x_kM0, x_kMl0, x_eML0, x_truB, x_truI, x_asB, x_cnx, x_crt, x_cbk, x_cct, x_cxc, x_sSeq, x_sNil, x_sBrk, x_sCnt, x_kEx, x_kSet, x_sEx, x_sSet, x_okO, x_putsN, x_putsC, x_kPar, x_sPar, x_kRet, x_sRet, x_sRetN, x_sIf, x_kSb3, x_kSb2, x_kSb1, x_sSub, x_kAsg, x_sAsg, x_pnm, x_ptp, x_kFor, x_sFor, x_itT, x_iR1, x_kR2, x_iR2, x_iE, x_tY, x_wN, x_wC, List.getElem?_cons_zero, List.getElem?_cons_succ, List.set_cons_zero, List.set_cons_succ, List.append_nil, List.nil_append, List.cons_append, List.length_cons, List.length_nil, Nat.reduceLeDiff, Nat.reduceAdd, Bool.not_true, Bool.not_false, T_ok, x_kMt, x_sMt, x_mtN, x_mtC, x_sWh, true_or, true_and, and_true, if_true, if_false, h1, len_tupN, nin23]; rfl, nofun⟩
    | [a], _, ts =>
      obtain ⟨pa, _, rfl, ta, ts⟩ := ts.uncons
      cases ts.nil_inv
      exact ⟨fun _ => by simp only [L_parts, bind_ok, bind_ex, outE_ok, outE_ex, retF_nx, retF_rt, retF_xc, x_optR, x_eV, x_eC, x_kB, x_eB, x_eU, x_eF, x_kM, x_eM, x_ift, x_iff, x_eIf, x_kTup, x_kLst, x_eTup, x_eLst, x_aN, x_kCc, x_kC, x_aC, x_tV, x_kCn, x_kCm, x_tCm, x_okB, x_tA, x_tO, x_kN, x_tN, x_tCh, x_kCj, x_kCi, x_kCh, x_eCh, x_kNb, x_kAn, x_kOr, x_kNo, x_eAnd, x_eOr, x_eNot, x_kCl, x_eCall, x_kS2, x_kS1, x_eSl, x_oN, x_asO, x_oS, x_mLoc, x_kML, x_eML, x_kM0, x_kMl0, x_eML0, x_truB, x_truI, x_asB, x_cnx, x_crt, x_cbk, x_cct, x_cxc, x_sSeq, x_sNil, x_sBrk, x_sCnt, x_kEx, x_kSet, x_sEx, x_sSet, x_okO, x_putsN, x_putsC, x_kPar, x_sPar, x_kRet, x_sRet, x_sRetN, x_sIf, x_kSb3, x_kSb2, x_kSb1, x_sSub, x_kAsg, x_sAsg, x_pnm, x_ptp, x_kFor, x_sFor, x_itT, x_iR1, x_kR2, x_iR2, x_iE, x_tY, x_wN, x_wC, List.getElem?_cons_zero, List.getElem?_cons_succ, List.set_cons_zero, List.set_cons_succ, List.append_nil, List.nil_append, List.cons_append, List.length_cons, List.length_nil, Nat.reduceLeDiff, Nat.reduceAdd, Bool.not_true, Bool.not_false, T_ok, x_kMt, x_sMt, x_mtN, x_mtC, x_sWh, true_or, true_and, and_true, if_true, if_false, h1, len_tupN, nin23]; rfl, fun ks e => by unfold partsP at e; split at e <;> simp_all⟩
    | [a, b], _, ts =>
      obtain ⟨pa, _, rfl, ta, ts⟩ := ts.uncons
      obtain ⟨pb, _, rfl, tb, ts⟩ := ts.uncons
      cases ts.nil_inv
      have h2 := isi_str ta
      cases pa with
      | str w =>
        have e := ta.flat_inv.2.1 w rfl
        subst e
        have hb1 := hb (lo := 0) (hi := 3 - 1) tb
        have hb2 := hb (lo := 0 - 1000) (hi := 1000) tb
        have n11 : ∀ M, dEq (.int 1) (.int 1) M = .ok (.bl true) M := fun _ => rfl
        have n12 : ∀ M, dEq (.int 1) (.int 2) M = .ok (.bl false) M := fun _ => rfl
        simp only [pStr] at h2
        by_cases v1 : w = "var"
        · subst v1
          have l1 : ∀ M, dIn false (.str "var") k_LEAVES M = .ok (.bl true) M := fun _ => rfl
          have l2 : ∀ M, dEq (.str "var") (.str "var") M = .ok (.bl true) M := fun _ => rfl
          have e1 : partsP (.tuple [.str "var", pb]) = if btw pb 0 2 then some [] else none := rfl
          rw [e1]
          simp only [L_parts, bind_ok, bind_ex, outE_ok, outE_ex, retF_nx, retF_rt, retF_xc, x_optR, x_eV, x_eC, x_kB, x_eB, x_eU, x_eF, x_kM, x_eM, x_ift, x_iff, x_eIf, x_kTup, x_kLst, x_eTup, x_eLst, x_aN, x_kCc, x_kC, x_aC, x_tV, x_kCn, x_kCm, x_tCm, x_okB, x_tA, x_tO, x_kN, x_tN, x_tCh, x_kCj, x_kCi, x_kCh, x_eCh, x_kNb, x_kAn, x_kOr, x_kNo, x_eAnd, x_eOr, x_eNot, x_kCl, x_eCall, x_kS2, x_kS1, x_eSl, x_oN, x_asO, x_oS, x_mLoc, x_kML, x_eML, x_kM0, x_kMl0, x_eML0, x_truB, x_truI, x_asB, x_cnx, x_crt, x_cbk, x_cct, x_cxc, x_sSeq, x_sNil, x_sBrk, x_sCnt, x_kEx, x_kSet, x_sEx, x_sSet, x_okO, x_putsN, x_putsC, x_kPar, x_sPar, x_kRet, x_sRet, x_sRetN, x_sIf, x_kSb3, x_kSb2, x_kSb1, x_sSub, x_kAsg, x_sAsg, x_pnm, x_ptp, x_kFor, x_sFor, x_itT, x_iR1, x_kR2, x_iR2, x_iE, x_tY, x_wN, x_wC, List.getElem?_cons_zero, List.getElem?_cons_succ, List.set_cons_zero, List.set_cons_succ, List.append_nil, List.nil_append, List.cons_append, List.length_cons, List.length_nil, Nat.reduceLeDiff, Nat.reduceAdd, Bool.not_true, Bool.not_false, T_ok, x_kMt, x_sMt, x_mtN, x_mtC, x_sWh, true_or, true_and, and_true, if_true, if_false, h1, len2, nin2, ixa, h2, sl2, l1, len1, n11, l2, dSub, ixb, hb1]
          cases q : btw pb 0 (3 - 1) with
          | true =>
            have q' : btw pb 0 2 = true := q
            simp only [bind_ok, bind_ex, outE_ok, outE_ex, retF_nx, retF_rt, retF_xc, x_optR, x_eV, x_eC, x_kB, x_eB, x_eU, x_eF, x_kM, x_eM, x_ift, x_iff, x_eIf, x_kTup, x_kLst, x_eTup, x_eLst, x_aN, x_kCc, x_kC, x_aC, x_tV, x_kCn, x_kCm, x_tCm, x_okB, x_tA, x_tO, x_kN, x_tN, x_tCh, x_kCj, x_kCi, x_kCh, x_eCh, x_kNb, x_kAn, x_kOr, x_kNo, x_eAnd, x_eOr, x_eNot, x_kCl, x_eCall, x_kS2, x_kS1, x_eSl, x_oN, x_asO, x_oS, x_mLoc, x_kML, x_eML, x_kM0, x_kMl0, x_eML0, x_truB, x_truI, x_asB, x_cnx, x_crt, x_cbk, x_cct, x_cxc, x_sSeq, x_sNil, x_sBrk, x_sCnt, x_kEx, x_kSet, x_sEx, x_sSet, x_okO, x_putsN, x_putsC, x_kPar, x_sPar, x_kRet, x_sRet, x_sRetN, x_sIf, x_kSb3, x_kSb2, x_kSb1, x_sSub, x_kAsg, x_sAsg, x_pnm, x_ptp, x_kFor, x_sFor, x_itT, x_iR1, x_kR2, x_iR2, x_iE, x_tY, x_wN, x_wC, List.getElem?_cons_zero, List.getElem?_cons_succ, List.set_cons_zero, List.set_cons_succ, List.append_nil, List.nil_append, List.cons_append, List.length_cons, List.length_nil, Nat.reduceLeDiff, Nat.reduceAdd, Bool.not_true, Bool.not_false, T_ok, x_kMt, x_sMt, x_mtN, x_mtC, x_sWh, true_or, true_and, and_true, if_true, if_false, q', if_true]
            exact ⟨nofun, fun ks e => by cases e; exact ⟨[], rfl, fun _ => ths_nil⟩⟩
          | false =>
            have q' : btw pb 0 2 = false := q
            simp only [bind_ok, bind_ex, outE_ok, outE_ex, retF_nx, retF_rt, retF_xc, x_optR, x_eV, x_eC, x_kB, x_eB, x_eU, x_eF, x_kM, x_eM, x_ift, x_iff, x_eIf, x_kTup, x_kLst, x_eTup, x_eLst, x_aN, x_kCc, x_kC, x_aC, x_tV, x_kCn, x_kCm, x_tCm, x_okB, x_tA, x_tO, x_kN, x_tN, x_tCh, x_kCj, x_kCi, x_kCh, x_eCh, x_kNb, x_kAn, x_kOr, x_kNo, x_eAnd, x_eOr, x_eNot, x_kCl, x_eCall, x_kS2, x_kS1, x_eSl, x_oN, x_asO, x_oS, x_mLoc, x_kML, x_eML, x_kM0, x_kMl0, x_eML0, x_truB, x_truI, x_asB, x_cnx, x_crt, x_cbk, x_cct, x_cxc, x_sSeq, x_sNil, x_sBrk, x_sCnt, x_kEx, x_kSet, x_sEx, x_sSet, x_okO, x_putsN, x_putsC, x_kPar, x_sPar, x_kRet, x_sRet, x_sRetN, x_sIf, x_kSb3, x_kSb2, x_kSb1, x_sSub, x_kAsg, x_sAsg, x_pnm, x_ptp, x_kFor, x_sFor, x_itT, x_iR1, x_kR2, x_iR2, x_iE, x_tY, x_wN, x_wC, List.getElem?_cons_zero, List.getElem?_cons_succ, List.set_cons_zero, List.set_cons_succ, List.append_nil, List.nil_append, List.cons_append, List.length_cons, List.length_nil, Nat.reduceLeDiff, Nat.reduceAdd, Bool.not_true, Bool.not_false, T_ok, x_kMt, x_sMt, x_mtN, x_mtC, x_sWh, true_or, true_and, and_true, if_true, if_false, q', Bool.false_eq_true, if_false]
            exact ⟨fun _ => trivial, nofun⟩
        · by_cases v2 : w = "number"
          · subst v2
            have l1 : ∀ M, dIn false (.str "number") k_LEAVES M = .ok (.bl true) M := fun _ => rfl
            have l2 : ∀ M, dEq (.str "number") (.str "var") M = .ok (.bl false) M := fun _ => rfl
            have e1 : partsP (.tuple [.str "number", pb]) = if btw pb (-1000) 1000 then some [] else none := rfl
            rw [e1]
            simp only [L_parts, bind_ok, bind_ex, outE_ok, outE_ex, retF_nx, retF_rt, retF_xc, x_optR, x_eV, x_eC, x_kB, x_eB, x_eU, x_eF, x_kM, x_eM, x_ift, x_iff, x_eIf, x_kTup, x_kLst, x_eTup, x_eLst, x_aN, x_kCc, x_kC, x_aC, x_tV, x_kCn, x_kCm, x_tCm, x_okB, x_tA, x_tO, x_kN, x_tN, x_tCh, x_kCj, x_kCi, x_kCh, x_eCh, x_kNb, x_kAn, x_kOr, x_kNo, x_eAnd, x_eOr, x_eNot, x_kCl, x_eCall, x_kS2, x_kS1, x_eSl, x_oN, x_asO, x_oS, x_mLoc, x_kML, x_eML, x_kM0, x_kMl0, x_eML0, x_truB, x_truI, x_asB, x_cnx, x_crt, x_cbk, x_cct, x_cxc, x_sSeq, x_sNil, x_sBrk, x_sCnt, x_kEx, x_kSet, x_sEx, x_sSet, x_okO, x_putsN, x_putsC, x_kPar, x_sPar, x_kRet, x_sRet, x_sRetN, x_sIf, x_kSb3, x_kSb2, x_kSb1, x_sSub, x_kAsg, x_sAsg, x_pnm, x_ptp, x_kFor, x_sFor, x_itT, x_iR1, x_kR2, x_iR2, x_iE, x_tY, x_wN, x_wC, List.getElem?_cons_zero, List.getElem?_cons_succ, List.set_cons_zero, List.set_cons_succ, List.append_nil, List.nil_append, List.cons_append, List.length_cons, List.length_nil, Nat.reduceLeDiff, Nat.reduceAdd, Bool.not_true, Bool.not_false, T_ok, x_kMt, x_sMt, x_mtN, x_mtC, x_sWh, true_or, true_and, and_true, if_true, if_false, h1, len2, nin2, ixa, h2, sl2, l1, len1, n11, l2, dSub, ixb, hb2]
            cases q : btw pb (0 - 1000) 1000 with
            | true =>
              have q' : btw pb (-1000) 1000 = true := q
              simp only [bind_ok, bind_ex, outE_ok, outE_ex, retF_nx, retF_rt, retF_xc, x_optR, x_eV, x_eC, x_kB, x_eB, x_eU, x_eF, x_kM, x_eM, x_ift, x_iff, x_eIf, x_kTup, x_kLst, x_eTup, x_eLst, x_aN, x_kCc, x_kC, x_aC, x_tV, x_kCn, x_kCm, x_tCm, x_okB, x_tA, x_tO, x_kN, x_tN, x_tCh, x_kCj, x_kCi, x_kCh, x_eCh, x_kNb, x_kAn, x_kOr, x_kNo, x_eAnd, x_eOr, x_eNot, x_kCl, x_eCall, x_kS2, x_kS1, x_eSl, x_oN, x_asO, x_oS, x_mLoc, x_kML, x_eML, x_kM0, x_kMl0, x_eML0, x_truB, x_truI, x_asB, x_cnx, x_crt, x_cbk, x_cct, x_cxc, x_sSeq, x_sNil, x_sBrk, x_sCnt, x_kEx, x_kSet, x_sEx, x_sSet, x_okO, x_putsN, x_putsC, x_kPar, x_sPar, x_kRet, x_sRet, x_sRetN, x_sIf, x_kSb3, x_kSb2, x_kSb1, x_sSub, x_kAsg, x_sAsg, x_pnm, x_ptp, x_kFor, x_sFor, x_itT, x_iR1, x_kR2, x_iR2, x_iE, x_tY, x_wN, x_wC, List.getElem?_cons_zero, List.getElem?_cons_succ, List.set_cons_zero, List.set_cons_succ, List.append_nil, List.nil_append, List.cons_append, List.length_cons, List.length_nil, Nat.reduceLeDiff, Nat.reduceAdd, Bool.not_true, Bool.not_false, T_ok, x_kMt, x_sMt, x_mtN, x_mtC, x_sWh, true_or, true_and, and_true, if_true, if_false, q', if_true]
              exact ⟨nofun, fun ks e => by cases e; exact ⟨[], rfl, fun _ => ths_nil⟩⟩
            | false =>
              have q' : btw pb (-1000) 1000 = false := q
              simp only [bind_ok, bind_ex, outE_ok, outE_ex, retF_nx, retF_rt, retF_xc, x_optR, x_eV, x_eC, x_kB, x_eB, x_eU, x_eF, x_kM, x_eM, x_ift, x_iff, x_eIf, x_kTup, x_kLst, x_eTup, x_eLst, x_aN, x_kCc, x_kC, x_aC, x_tV, x_kCn, x_kCm, x_tCm, x_okB, x_tA, x_tO, x_kN, x_tN, x_tCh, x_kCj, x_kCi, x_kCh, x_eCh, x_kNb, x_kAn, x_kOr, x_kNo, x_eAnd, x_eOr, x_eNot, x_kCl, x_eCall, x_kS2, x_kS1, x_eSl, x_oN, x_asO, x_oS, x_mLoc, x_kML, x_eML, x_kM0, x_kMl0, x_eML0, x_truB, x_truI, x_asB, x_cnx, x_crt, x_cbk, x_cct, x_cxc, x_sSeq, x_sNil, x_sBrk, x_sCnt, x_kEx, x_kSet, x_sEx, x_sSet, x_okO, x_putsN, x_putsC, x_kPar, x_sPar, x_kRet, x_sRet, x_sRetN, x_sIf, x_kSb3, x_kSb2, x_kSb1, x_sSub, x_kAsg, x_sAsg, x_pnm, x_ptp, x_kFor, x_sFor, x_itT, x_iR1, x_kR2, x_iR2, x_iE, x_tY, x_wN, x_wC, List.getElem?_cons_zero, List.getElem?_cons_succ, List.set_cons_zero, List.set_cons_succ, List.append_nil, List.nil_append, List.cons_append, List.length_cons, List.length_nil, Nat.reduceLeDiff, Nat.reduceAdd, Bool.not_true, Bool.not_false, T_ok, x_kMt, x_sMt, x_mtN, x_mtC, x_sWh, true_or, true_and, and_true, if_true, if_false, q', Bool.false_eq_true, if_false]
              exact ⟨fun _ => trivial, nofun⟩
          · have l1 : ∀ M, dIn false (.str w) k_LEAVES M = .ok (.bl false) M := fun _ => by
              rw [in_str2]; simp [Ne.symm v1, Ne.symm v2]
            by_cases v3 : w = "not"
            · subst v3
              have l2 : ∀ M, dEq (.str "not") (.str "not") M = .ok (.bl true) M := fun _ => rfl
              have e1 : partsP (.tuple [.str "not", pb]) = some [pb] := rfl
              rw [e1]
              simp only [L_parts, bind_ok, bind_ex, outE_ok, outE_ex, retF_nx, retF_rt, retF_xc, x_optR, x_eV, x_eC, x_kB, x_eB, x_eU, x_eF, x_kM, x_eM, x_ift, x_iff, x_eIf, x_kTup, x_kLst, x_eTup, x_eLst, x_aN, x_kCc, x_kC, x_aC, x_tV, x_kCn, x_kCm, x_tCm, x_okB, x_tA, x_tO, x_kN, x_tN, x_tCh, x_kCj, x_kCi, x_kCh, x_eCh, x_kNb, x_kAn, x_kOr, x_kNo, x_eAnd, x_eOr, x_eNot, x_kCl, x_eCall, x_kS2, x_kS1, x_eSl, x_oN, x_asO, x_oS, x_mLoc, x_kML, x_eML, x_kM0, x_kMl0, x_eML0, x_truB, x_truI, x_asB, x_cnx, x_crt, x_cbk, x_cct, x_cxc, x_sSeq, x_sNil, x_sBrk, x_sCnt, x_kEx, x_kSet, x_sEx, x_sSet, x_okO, x_putsN, x_putsC, x_kPar, x_sPar, x_kRet, x_sRet, x_sRetN, x_sIf, x_kSb3, x_kSb2, x_kSb1, x_sSub, x_kAsg, x_sAsg, x_pnm, x_ptp, x_kFor, x_sFor, x_itT, x_iR1, x_kR2, x_iR2, x_iE, x_tY, x_wN, x_wC, List.getElem?_cons_zero, List.getElem?_cons_succ, List.set_cons_zero, List.set_cons_succ, List.append_nil, List.nil_append, List.cons_append, List.length_cons, List.length_nil, Nat.reduceLeDiff, Nat.reduceAdd, Bool.not_true, Bool.not_false, T_ok, x_kMt, x_sMt, x_mtN, x_mtC, x_sWh, true_or, true_and, and_true, if_true, if_false, h1, len2, nin2, ixa, h2, sl2, l1, len1, n11, l2]
              exact ⟨nofun, fun ks e => by cases e; exact ⟨[b], rfl, fun t => ths_cons (th2 t).2 ths_nil⟩⟩
            · have e1 : partsP (.tuple [.str w, pb]) = none := by simp [partsP, v1, v2, v3]
              rw [e1]
              refine ⟨fun _ => ?_, nofun⟩
              simp only [L_parts, bind_ok, bind_ex, outE_ok, outE_ex, retF_nx, retF_rt, retF_xc, x_optR, x_eV, x_eC, x_kB, x_eB, x_eU, x_eF, x_kM, x_eM, x_ift, x_iff, x_eIf, x_kTup, x_kLst, x_eTup, x_eLst, x_aN, x_kCc, x_kC, x_aC, x_tV, x_kCn, x_kCm, x_tCm, x_okB, x_tA, x_tO, x_kN, x_tN, x_tCh, x_kCj, x_kCi, x_kCh, x_eCh, x_kNb, x_kAn, x_kOr, x_kNo, x_eAnd, x_eOr, x_eNot, x_kCl, x_eCall, x_kS2, x_kS1, x_eSl, x_oN, x_asO, x_oS, x_mLoc, x_kML, x_eML, x_kM0, x_kMl0, x_eML0, x_truB, x_truI, x_asB, x_cnx, x_crt, x_cbk, x_cct, x_cxc, x_sSeq, x_sNil, x_sBrk, x_sCnt, x_kEx, x_kSet, x_sEx, x_sSet, x_okO, x_putsN, x_putsC, x_kPar, x_sPar, x_kRet, x_sRet, x_sRetN, x_sIf, x_kSb3, x_kSb2, x_kSb1, x_sSub, x_kAsg, x_sAsg, x_pnm, x_ptp, x_kFor, x_sFor, x_itT, x_iR1, x_kR2, x_iR2, x_iE, x_tY, x_wN, x_wC, List.getElem?_cons_zero, List.getElem?_cons_succ, List.set_cons_zero, List.set_cons_succ, List.append_nil, List.nil_append, List.cons_append, List.length_cons, List.length_nil, Nat.reduceLeDiff, Nat.reduceAdd, Bool.not_true, Bool.not_false, T_ok, x_kMt, x_sMt, x_mtN, x_mtC, x_sWh, true_or, true_and, and_true, if_true, if_false, h1, len2, nin2, ixa, h2, sl2, l1, len1, n11, n12, eq_s, v3, decide_false, in_str5]
              cases ("and" == w || ("or" == w || ("xor" == w || ("plus" == w || "minus" == w)))) <;> simp only [bind_ok, bind_ex, outE_ok, outE_ex, retF_nx, retF_rt, retF_xc, x_optR, x_eV, x_eC, x_kB, x_eB, x_eU, x_eF, x_kM, x_eM, x_ift, x_iff, x_eIf, x_kTup, x_kLst, x_eTup, x_eLst, x_aN, x_kCc, x_kC, x_aC, x_tV, x_kCn, x_kCm, x_tCm, x_okB, x_tA, x_tO, x_kN, x_tN, x_tCh, x_kCj, x_kCi, x_kCh, x_eCh, x_kNb, x_kAn, x_kOr, x_kNo, x_eAnd, x_eOr, x_eNot, x_kCl, x_eCall, x_kS2, x_kS1, x_eSl, x_oN, x_asO, x_oS, x_mLoc, x_kML, x_eML, x_kM0, x_kMl0, x_eML0, x_truB, x_truI, x_asB, x_cnx, x_crt, x_cbk, x_cct, x_cxc, x_sSeq, x_sNil, x_sBrk, x_sCnt, x_kEx, x_kSet, x_sEx, x_sSet, x_okO, x_putsN, x_putsC, x_kPar, x_sPar, x_kRet, x_sRet, x_sRetN, x_sIf, x_kSb3, x_kSb2, x_kSb1, x_sSub, x_kAsg, x_sAsg, x_pnm, x_ptp, x_kFor, x_sFor, x_itT, x_iR1, x_kR2, x_iR2, x_iE, x_tY, x_wN, x_wC, List.getElem?_cons_zero, List.getElem?_cons_succ, List.set_cons_zero, List.set_cons_succ, List.append_nil, List.nil_append, List.cons_append, List.length_cons, List.length_nil, Nat.reduceLeDiff, Nat.reduceAdd, Bool.not_true, Bool.not_false, T_ok, x_kMt, x_sMt, x_mtN, x_mtC, x_sWh, true_or, true_and, and_true, if_true, if_false, len1, n12, eq_s] <;> (cases decide (w = "shift") <;> simp only [bind_ok, bind_ex, outE_ok, outE_ex, retF_nx, retF_rt, retF_xc, x_optR, x_eV, x_eC, x_kB, x_eB, x_eU, x_eF, x_kM, x_eM, x_ift, x_iff, x_eIf, x_kTup, x_kLst, x_eTup, x_eLst, x_aN, x_kCc, x_kC, x_aC, x_tV, x_kCn, x_kCm, x_tCm, x_okB, x_tA, x_tO, x_kN, x_tN, x_tCh, x_kCj, x_kCi, x_kCh, x_eCh, x_kNb, x_kAn, x_kOr, x_kNo, x_eAnd, x_eOr, x_eNot, x_kCl, x_eCall, x_kS2, x_kS1, x_eSl, x_oN, x_asO, x_oS, x_mLoc, x_kML, x_eML, x_kM0, x_kMl0, x_eML0, x_truB, x_truI, x_asB, x_cnx, x_crt, x_cbk, x_cct, x_cxc, x_sSeq, x_sNil, x_sBrk, x_sCnt, x_kEx, x_kSet, x_sEx, x_sSet, x_okO, x_putsN, x_putsC, x_kPar, x_sPar, x_kRet, x_sRet, x_sRetN, x_sIf, x_kSb3, x_kSb2, x_kSb1, x_sSub, x_kAsg, x_sAsg, x_pnm, x_ptp, x_kFor, x_sFor, x_itT, x_iR1, x_kR2, x_iR2, x_iE, x_tY, x_wN, x_wC, List.getElem?_cons_zero, List.getElem?_cons_succ, List.set_cons_zero, List.set_cons_succ, List.append_nil, List.nil_append, List.cons_append, List.length_cons, List.length_nil, Nat.reduceLeDiff, Nat.reduceAdd, Bool.not_true, Bool.not_false, T_ok, x_kMt, x_sMt, x_mtN, x_mtC, x_sWh, true_or, true_and, and_true, if_true, if_false, len1, n12, eq_s] <;> (cases decide (w = "times") <;> simp only [bind_ok, bind_ex, outE_ok, outE_ex, retF_nx, retF_rt, retF_xc, x_optR, x_eV, x_eC, x_kB, x_eB, x_eU, x_eF, x_kM, x_eM, x_ift, x_iff, x_eIf, x_kTup, x_kLst, x_eTup, x_eLst, x_aN, x_kCc, x_kC, x_aC, x_tV, x_kCn, x_kCm, x_tCm, x_okB, x_tA, x_tO, x_kN, x_tN, x_tCh, x_kCj, x_kCi, x_kCh, x_eCh, x_kNb, x_kAn, x_kOr, x_kNo, x_eAnd, x_eOr, x_eNot, x_kCl, x_eCall, x_kS2, x_kS1, x_eSl, x_oN, x_asO, x_oS, x_mLoc, x_kML, x_eML, x_kM0, x_kMl0, x_eML0, x_truB, x_truI, x_asB, x_cnx, x_crt, x_cbk, x_cct, x_cxc, x_sSeq, x_sNil, x_sBrk, x_sCnt, x_kEx, x_kSet, x_sEx, x_sSet, x_okO, x_putsN, x_putsC, x_kPar, x_sPar, x_kRet, x_sRet, x_sRetN, x_sIf, x_kSb3, x_kSb2, x_kSb1, x_sSub, x_kAsg, x_sAsg, x_pnm, x_ptp, x_kFor, x_sFor, x_itT, x_iR1, x_kR2, x_iR2, x_iE, x_tY, x_wN, x_wC, List.getElem?_cons_zero, List.getElem?_cons_succ, List.set_cons_zero, List.set_cons_succ, List.append_nil, List.nil_append, List.cons_append, List.length_cons, List.length_nil, Nat.reduceLeDiff, Nat.reduceAdd, Bool.not_true, Bool.not_false, T_ok, x_kMt, x_sMt, x_mtN, x_mtC, x_sWh, true_or, true_and, and_true, if_true, if_false, len1, n12]))
      | _ =>
        simp only [pStr] at h2
        exact ⟨fun _ => by simp only [L_parts, bind_ok, bind_ex, outE_ok, outE_ex, retF_nx, retF_rt, retF_xc, x_optR, x_eV, x_eC, x_kB, x_eB, x_eU, x_eF, x_kM, x_eM, x_ift, x_iff, x_eIf, x_kTup, x_kLst, x_eTup, x_eLst, x_aN, x_kCc, x_kC, x_aC, x_tV, x_kCn, x_kCm, x_tCm, x_okB, x_tA, x_tO, x_kN, x_tN, x_tCh, x_kCj, x_kCi, x_kCh, x_eCh, x_kNb, x_kAn, x_kOr, x_kNo, x_eAnd, x_eOr, x_eNot, x_kCl, x_eCall, x_kS2, x_kS1, x_eSl, x_oN, x_asO, x_oS, x_mLoc, x_kML, x_eML, x_kM0, x_kMl0, x_eML0, x_truB, x_truI, x_asB, x_cnx, x_crt, x_cbk, x_cct, x_cxc, x_sSeq, x_sNil, x_sBrk, x_sCnt, x_kEx, x_kSet, x_sEx, x_sSet, x_okO, x_putsN, x_putsC, x_kPar, x_sPar, x_kRet, x_sRet, x_sRetN, x_sIf, x_kSb3, x_kSb2, x_kSb1, x_sSub, x_kAsg, x_sAsg, x_pnm, x_ptp, x_kFor, x_sFor, x_itT, x_iR1, x_kR2, x_iR2, x_iE, x_tY, x_wN, x_wC, List.getElem?_cons_zero, List.getElem?_cons_succ, List.set_cons_zero, List.set_cons_succ, List.append_nil, List.nil_append, List.cons_append, List.length_cons, List.length_nil, Nat.reduceLeDiff, Nat.reduceAdd, Bool.not_true, Bool.not_false, T_ok, x_kMt, x_sMt, x_mtN, x_mtC, x_sWh, true_or, true_and, and_true, if_true, if_false, h1, len2, nin2, ixa, h2], fun ks e => by simp [partsP] at e⟩
    | [a, b, c], _, ts =>
      obtain ⟨pa, _, rfl, ta, ts⟩ := ts.uncons
      obtain ⟨pb, _, rfl, tb, ts⟩ := ts.uncons
      obtain ⟨pc, _, rfl, tc, ts⟩ := ts.uncons
      cases ts.nil_inv
      have h2 := isi_str ta
      cases pa with
      | str w =>
        have e := ta.flat_inv.2.1 w rfl
        subst e
        have hb1 := hb (lo := 1) (hi := 4) tc
        have hb2 := hb (lo := 0 - 9) (hi := 9) tb
        have n21 : ∀ M, dEq (.int 2) (.int 1) M = .ok (.bl false) M := fun _ => rfl
        have n22 : ∀ M, dEq (.int 2) (.int 2) M = .ok (.bl true) M := fun _ => rfl
        simp only [pStr] at h2
        by_cases v1 : w = "and" ∨ w = "or" ∨ w = "xor" ∨ w = "plus" ∨ w = "minus"
        · obtain ⟨l0, ln, l1⟩ : (∀ M, dIn false (.str w) k_LEAVES M = .ok (.bl false) M) ∧ (∀ M, dEq (.str w) (.str "not") M = .ok (.bl false) M) ∧ ∀ M, dIn false (.str w) k_PAIRED M = .ok (.bl true) M := by
            rcases v1 with rfl | rfl | rfl | rfl | rfl <;> exact ⟨fun _ => rfl, fun _ => rfl, fun _ => rfl⟩
          have e1 : partsP (.tuple [.str w, pb, pc]) = some [pb, pc] := by simp only [partsP, v1, if_true]
          rw [e1]
          simp only [L_parts, bind_ok, bind_ex, outE_ok, outE_ex, retF_nx, retF_rt, retF_xc, x_optR, x_eV, x_eC, x_kB, x_eB, x_eU, x_eF, x_kM, x_eM, x_ift, x_iff, x_eIf, x_kTup, x_kLst, x_eTup, x_eLst, x_aN, x_kCc, x_kC, x_aC, x_tV, x_kCn, x_kCm, x_tCm, x_okB, x_tA, x_tO, x_kN, x_tN, x_tCh, x_kCj, x_kCi, x_kCh, x_eCh, x_kNb, x_kAn, x_kOr, x_kNo, x_eAnd, x_eOr, x_eNot, x_kCl, x_eCall, x_kS2, x_kS1, x_eSl, x_oN, x_asO, x_oS, x_mLoc, x_kML, x_eML, x_kM0, x_kMl0, x_eML0, x_truB, x_truI, x_asB, x_cnx, x_crt, x_cbk, x_cct, x_cxc, x_sSeq, x_sNil, x_sBrk, x_sCnt, x_kEx, x_kSet, x_sEx, x_sSet, x_okO, x_putsN, x_putsC, x_kPar, x_sPar, x_kRet, x_sRet, x_sRetN, x_sIf, x_kSb3, x_kSb2, x_kSb1, x_sSub, x_kAsg, x_sAsg, x_pnm, x_ptp, x_kFor, x_sFor, x_itT, x_iR1, x_kR2, x_iR2, x_iE, x_tY, x_wN, x_wC, List.getElem?_cons_zero, List.getElem?_cons_succ, List.set_cons_zero, List.set_cons_succ, List.append_nil, List.nil_append, List.cons_append, List.length_cons, List.length_nil, Nat.reduceLeDiff, Nat.reduceAdd, Bool.not_true, Bool.not_false, T_ok, x_kMt, x_sMt, x_mtN, x_mtC, x_sWh, true_or, true_and, and_true, if_true, if_false, h1, len3, nin3, ixa, h2, sl3, l0, ln, l1, len2, n22]
          exact ⟨nofun, fun ks e => by cases e; exact ⟨[b, c], rfl, fun t => ths_cons (th3 t).2.1 (ths_cons (th3 t).2.2 ths_nil)⟩⟩
        · have l1 : ∀ M, dIn false (.str w) k_PAIRED M = .ok (.bl false) M := fun _ => by
            rw [in_str5]
            simp only [not_or] at v1
            obtain ⟨a1, a2, a3, a4, a5⟩ := v1
            simp [Ne.symm a1, Ne.symm a2, Ne.symm a3, Ne.symm a4, Ne.symm a5]
          by_cases v2 : w = "shift"
          · subst v2
            have l0 : ∀ M, dIn false (.str "shift") k_LEAVES M = .ok (.bl false) M := fun _ => rfl
            have ln : ∀ M, dEq (.str "shift") (.str "not") M = .ok (.bl false) M := fun _ => rfl
            have l2 : ∀ M, dEq (.str "shift") (.str "shift") M = .ok (.bl true) M := fun _ => rfl
            have l3 : ∀ M, dEq (.str "shift") (.str "times") M = .ok (.bl false) M := fun _ => rfl
            have e1 : partsP (.tuple [.str "shift", pb, pc]) = if btw pc 1 4 then some [pb] else none := rfl
            rw [e1]
            simp only [L_parts, bind_ok, bind_ex, outE_ok, outE_ex, retF_nx, retF_rt, retF_xc, x_optR, x_eV, x_eC, x_kB, x_eB, x_eU, x_eF, x_kM, x_eM, x_ift, x_iff, x_eIf, x_kTup, x_kLst, x_eTup, x_eLst, x_aN, x_kCc, x_kC, x_aC, x_tV, x_kCn, x_kCm, x_tCm, x_okB, x_tA, x_tO, x_kN, x_tN, x_tCh, x_kCj, x_kCi, x_kCh, x_eCh, x_kNb, x_kAn, x_kOr, x_kNo, x_eAnd, x_eOr, x_eNot, x_kCl, x_eCall, x_kS2, x_kS1, x_eSl, x_oN, x_asO, x_oS, x_mLoc, x_kML, x_eML, x_kM0, x_kMl0, x_eML0, x_truB, x_truI, x_asB, x_cnx, x_crt, x_cbk, x_cct, x_cxc, x_sSeq, x_sNil, x_sBrk, x_sCnt, x_kEx, x_kSet, x_sEx, x_sSet, x_okO, x_putsN, x_putsC, x_kPar, x_sPar, x_kRet, x_sRet, x_sRetN, x_sIf, x_kSb3, x_kSb2, x_kSb1, x_sSub, x_kAsg, x_sAsg, x_pnm, x_ptp, x_kFor, x_sFor, x_itT, x_iR1, x_kR2, x_iR2, x_iE, x_tY, x_wN, x_wC, List.getElem?_cons_zero, List.getElem?_cons_succ, List.set_cons_zero, List.set_cons_succ, List.append_nil, List.nil_append, List.cons_append, List.length_cons, List.length_nil, Nat.reduceLeDiff, Nat.reduceAdd, Bool.not_true, Bool.not_false, T_ok, x_kMt, x_sMt, x_mtN, x_mtC, x_sWh, true_or, true_and, and_true, if_true, if_false, h1, len3, nin3, ixa, h2, sl3, l0, ln, l1, l2, len2, n22, ixb, hb1]
            cases q : btw pc 1 4 with
            | true =>
              simp only [bind_ok, bind_ex, outE_ok, outE_ex, retF_nx, retF_rt, retF_xc, x_optR, x_eV, x_eC, x_kB, x_eB, x_eU, x_eF, x_kM, x_eM, x_ift, x_iff, x_eIf, x_kTup, x_kLst, x_eTup, x_eLst, x_aN, x_kCc, x_kC, x_aC, x_tV, x_kCn, x_kCm, x_tCm, x_okB, x_tA, x_tO, x_kN, x_tN, x_tCh, x_kCj, x_kCi, x_kCh, x_eCh, x_kNb, x_kAn, x_kOr, x_kNo, x_eAnd, x_eOr, x_eNot, x_kCl, x_eCall, x_kS2, x_kS1, x_eSl, x_oN, x_asO, x_oS, x_mLoc, x_kML, x_eML, x_kM0, x_kMl0, x_eML0, x_truB, x_truI, x_asB, x_cnx, x_crt, x_cbk, x_cct, x_cxc, x_sSeq, x_sNil, x_sBrk, x_sCnt, x_kEx, x_kSet, x_sEx, x_sSet, x_okO, x_putsN, x_putsC, x_kPar, x_sPar, x_kRet, x_sRet, x_sRetN, x_sIf, x_kSb3, x_kSb2, x_kSb1, x_sSub, x_kAsg, x_sAsg, x_pnm, x_ptp, x_kFor, x_sFor, x_itT, x_iR1, x_kR2, x_iR2, x_iE, x_tY, x_wN, x_wC, List.getElem?_cons_zero, List.getElem?_cons_succ, List.set_cons_zero, List.set_cons_succ, List.append_nil, List.nil_append, List.cons_append, List.length_cons, List.length_nil, Nat.reduceLeDiff, Nat.reduceAdd, Bool.not_true, Bool.not_false, T_ok, x_kMt, x_sMt, x_mtN, x_mtC, x_sWh, true_or, true_and, and_true, if_true, if_false, slh, if_true]
              exact ⟨nofun, fun ks e => by cases e; exact ⟨[b], rfl, fun t => ths_cons (th3 t).2.1 ths_nil⟩⟩
            | false =>
              simp only [bind_ok, bind_ex, outE_ok, outE_ex, retF_nx, retF_rt, retF_xc, x_optR, x_eV, x_eC, x_kB, x_eB, x_eU, x_eF, x_kM, x_eM, x_ift, x_iff, x_eIf, x_kTup, x_kLst, x_eTup, x_eLst, x_aN, x_kCc, x_kC, x_aC, x_tV, x_kCn, x_kCm, x_tCm, x_okB, x_tA, x_tO, x_kN, x_tN, x_tCh, x_kCj, x_kCi, x_kCh, x_eCh, x_kNb, x_kAn, x_kOr, x_kNo, x_eAnd, x_eOr, x_eNot, x_kCl, x_eCall, x_kS2, x_kS1, x_eSl, x_oN, x_asO, x_oS, x_mLoc, x_kML, x_eML, x_kM0, x_kMl0, x_eML0, x_truB, x_truI, x_asB, x_cnx, x_crt, x_cbk, x_cct, x_cxc, x_sSeq, x_sNil, x_sBrk, x_sCnt, x_kEx, x_kSet, x_sEx, x_sSet, x_okO, x_putsN, x_putsC, x_kPar, x_sPar, x_kRet, x_sRet, x_sRetN, x_sIf, x_kSb3, x_kSb2, x_kSb1, x_sSub, x_kAsg, x_sAsg, x_pnm, x_ptp, x_kFor, x_sFor, x_itT, x_iR1, x_kR2, x_iR2, x_iE, x_tY, x_wN, x_wC, List.getElem?_cons_zero, List.getElem?_cons_succ, List.set_cons_zero, List.set_cons_succ, List.append_nil, List.nil_append, List.cons_append, List.length_cons, List.length_nil, Nat.reduceLeDiff, Nat.reduceAdd, Bool.not_true, Bool.not_false, T_ok, x_kMt, x_sMt, x_mtN, x_mtC, x_sWh, true_or, true_and, and_true, if_true, if_false, l3, Bool.false_eq_true, if_false]
              exact ⟨fun _ => trivial, nofun⟩
          · by_cases v3 : w = "times"
            · subst v3
              have l0 : ∀ M, dIn false (.str "times") k_LEAVES M = .ok (.bl false) M := fun _ => rfl
              have ln : ∀ M, dEq (.str "times") (.str "not") M = .ok (.bl false) M := fun _ => rfl
              have l2 : ∀ M, dEq (.str "times") (.str "times") M = .ok (.bl true) M := fun _ => rfl
              have l3 : ∀ M, dEq (.str "times") (.str "shift") M = .ok (.bl false) M := fun _ => rfl
              have e1 : partsP (.tuple [.str "times", pb, pc]) = if btw pb (-9) 9 then some [pc] else none := rfl
              rw [e1]
              simp only [L_parts, bind_ok, bind_ex, outE_ok, outE_ex, retF_nx, retF_rt, retF_xc, x_optR, x_eV, x_eC, x_kB, x_eB, x_eU, x_eF, x_kM, x_eM, x_ift, x_iff, x_eIf, x_kTup, x_kLst, x_eTup, x_eLst, x_aN, x_kCc, x_kC, x_aC, x_tV, x_kCn, x_kCm, x_tCm, x_okB, x_tA, x_tO, x_kN, x_tN, x_tCh, x_kCj, x_kCi, x_kCh, x_eCh, x_kNb, x_kAn, x_kOr, x_kNo, x_eAnd, x_eOr, x_eNot, x_kCl, x_eCall, x_kS2, x_kS1, x_eSl, x_oN, x_asO, x_oS, x_mLoc, x_kML, x_eML, x_kM0, x_kMl0, x_eML0, x_truB, x_truI, x_asB, x_cnx, x_crt, x_cbk, x_cct, x_cxc, x_sSeq, x_sNil, x_sBrk, x_sCnt, x_kEx, x_kSet, x_sEx, x_sSet, x_okO, x_putsN, x_putsC, x_kPar, x_sPar, x_kRet, x_sRet, x_sRetN, x_sIf, x_kSb3, x_kSb2, x_kSb1, x_sSub, x_kAsg, x_sAsg, x_pnm, x_ptp, x_kFor, x_sFor, x_itT, x_iR1, x_kR2, x_iR2, x_iE, x_tY, x_wN, x_wC, List.getElem?_cons_zero, List.getElem?_cons_succ, List.set_cons_zero, List.set_cons_succ, List.append_nil, List.nil_append, List.cons_append, List.length_cons, List.length_nil, Nat.reduceLeDiff, Nat.reduceAdd, Bool.not_true, Bool.not_false, T_ok, x_kMt, x_sMt, x_mtN, x_mtC, x_sWh, true_or, true_and, and_true, if_true, if_false, h1, len3, nin3, ixa, h2, sl3, l0, ln, l1, l2, l3, len2, n22, dSub, hb2]
              cases q : btw pb (0 - 9) 9 with
              | true =>
                have q' : btw pb (-9) 9 = true := q
                simp only [bind_ok, bind_ex, outE_ok, outE_ex, retF_nx, retF_rt, retF_xc, x_optR, x_eV, x_eC, x_kB, x_eB, x_eU, x_eF, x_kM, x_eM, x_ift, x_iff, x_eIf, x_kTup, x_kLst, x_eTup, x_eLst, x_aN, x_kCc, x_kC, x_aC, x_tV, x_kCn, x_kCm, x_tCm, x_okB, x_tA, x_tO, x_kN, x_tN, x_tCh, x_kCj, x_kCi, x_kCh, x_eCh, x_kNb, x_kAn, x_kOr, x_kNo, x_eAnd, x_eOr, x_eNot, x_kCl, x_eCall, x_kS2, x_kS1, x_eSl, x_oN, x_asO, x_oS, x_mLoc, x_kML, x_eML, x_kM0, x_kMl0, x_eML0, x_truB, x_truI, x_asB, x_cnx, x_crt, x_cbk, x_cct, x_cxc, x_sSeq, x_sNil, x_sBrk, x_sCnt, x_kEx, x_kSet, x_sEx, x_sSet, x_okO, x_putsN, x_putsC, x_kPar, x_sPar, x_kRet, x_sRet, x_sRetN, x_sIf, x_kSb3, x_kSb2, x_kSb1, x_sSub, x_kAsg, x_sAsg, x_pnm, x_ptp, x_kFor, x_sFor, x_itT, x_iR1, x_kR2, x_iR2, x_iE, x_tY, x_wN, x_wC, List.getElem?_cons_zero, List.getElem?_cons_succ, List.set_cons_zero, List.set_cons_succ, List.append_nil, List.nil_append, List.cons_append, List.length_cons, List.length_nil, Nat.reduceLeDiff, Nat.reduceAdd, Bool.not_true, Bool.not_false, T_ok, x_kMt, x_sMt, x_mtN, x_mtC, x_sWh, true_or, true_and, and_true, if_true, if_false, sl2, q', if_true]
                exact ⟨nofun, fun ks e => by cases e; exact ⟨[c], rfl, fun t => ths_cons (th3 t).2.2 ths_nil⟩⟩
              | false =>
                have q' : btw pb (-9) 9 = false := q
                simp only [bind_ok, bind_ex, outE_ok, outE_ex, retF_nx, retF_rt, retF_xc, x_optR, x_eV, x_eC, x_kB, x_eB, x_eU, x_eF, x_kM, x_eM, x_ift, x_iff, x_eIf, x_kTup, x_kLst, x_eTup, x_eLst, x_aN, x_kCc, x_kC, x_aC, x_tV, x_kCn, x_kCm, x_tCm, x_okB, x_tA, x_tO, x_kN, x_tN, x_tCh, x_kCj, x_kCi, x_kCh, x_eCh, x_kNb, x_kAn, x_kOr, x_kNo, x_eAnd, x_eOr, x_eNot, x_kCl, x_eCall, x_kS2, x_kS1, x_eSl, x_oN, x_asO, x_oS, x_mLoc, x_kML, x_eML, x_kM0, x_kMl0, x_eML0, x_truB, x_truI, x_asB, x_cnx, x_crt, x_cbk, x_cct, x_cxc, x_sSeq, x_sNil, x_sBrk, x_sCnt, x_kEx, x_kSet, x_sEx, x_sSet, x_okO, x_putsN, x_putsC, x_kPar, x_sPar, x_kRet, x_sRet, x_sRetN, x_sIf, x_kSb3, x_kSb2, x_kSb1, x_sSub, x_kAsg, x_sAsg, x_pnm, x_ptp, x_kFor, x_sFor, x_itT, x_iR1, x_kR2, x_iR2, x_iE, x_tY, x_wN, x_wC, List.getElem?_cons_zero, List.getElem?_cons_succ, List.set_cons_zero, List.set_cons_succ, List.append_nil, List.nil_append, List.cons_append, List.length_cons, List.length_nil, Nat.reduceLeDiff, Nat.reduceAdd, Bool.not_true, Bool.not_false, T_ok, x_kMt, x_sMt, x_mtN, x_mtC, x_sWh, true_or, true_and, and_true, if_true, if_false, q', Bool.false_eq_true, if_false]
                exact ⟨fun _ => trivial, nofun⟩
            · have e1 : partsP (.tuple [.str w, pb, pc]) = none := by simp only [partsP, v1, v2, v3, if_false]
              rw [e1]
              refine ⟨fun _ => ?_, nofun⟩
              simp only [L_parts, bind_ok, bind_ex, outE_ok, outE_ex, retF_nx, retF_rt, retF_xc, x_optR, x_eV, x_eC, x_kB, x_eB, x_eU, x_eF, x_kM, x_eM, x_ift, x_iff, x_eIf, x_kTup, x_kLst, x_eTup, x_eLst, x_aN, x_kCc, x_kC, x_aC, x_tV, x_kCn, x_kCm, x_tCm, x_okB, x_tA, x_tO, x_kN, x_tN, x_tCh, x_kCj, x_kCi, x_kCh, x_eCh, x_kNb, x_kAn, x_kOr, x_kNo, x_eAnd, x_eOr, x_eNot, x_kCl, x_eCall, x_kS2, x_kS1, x_eSl, x_oN, x_asO, x_oS, x_mLoc, x_kML, x_eML, x_kM0, x_kMl0, x_eML0, x_truB, x_truI, x_asB, x_cnx, x_crt, x_cbk, x_cct, x_cxc, x_sSeq, x_sNil, x_sBrk, x_sCnt, x_kEx, x_kSet, x_sEx, x_sSet, x_okO, x_putsN, x_putsC, x_kPar, x_sPar, x_kRet, x_sRet, x_sRetN, x_sIf, x_kSb3, x_kSb2, x_kSb1, x_sSub, x_kAsg, x_sAsg, x_pnm, x_ptp, x_kFor, x_sFor, x_itT, x_iR1, x_kR2, x_iR2, x_iE, x_tY, x_wN, x_wC, List.getElem?_cons_zero, List.getElem?_cons_succ, List.set_cons_zero, List.set_cons_succ, List.append_nil, List.nil_append, List.cons_append, List.length_cons, List.length_nil, Nat.reduceLeDiff, Nat.reduceAdd, Bool.not_true, Bool.not_false, T_ok, x_kMt, x_sMt, x_mtN, x_mtC, x_sWh, true_or, true_and, and_true, if_true, if_false, h1, len3, nin3, ixa, h2, sl3, in_str2]
              cases ("var" == w || "number" == w) <;> simp only [bind_ok, bind_ex, outE_ok, outE_ex, retF_nx, retF_rt, retF_xc, x_optR, x_eV, x_eC, x_kB, x_eB, x_eU, x_eF, x_kM, x_eM, x_ift, x_iff, x_eIf, x_kTup, x_kLst, x_eTup, x_eLst, x_aN, x_kCc, x_kC, x_aC, x_tV, x_kCn, x_kCm, x_tCm, x_okB, x_tA, x_tO, x_kN, x_tN, x_tCh, x_kCj, x_kCi, x_kCh, x_eCh, x_kNb, x_kAn, x_kOr, x_kNo, x_eAnd, x_eOr, x_eNot, x_kCl, x_eCall, x_kS2, x_kS1, x_eSl, x_oN, x_asO, x_oS, x_mLoc, x_kML, x_eML, x_kM0, x_kMl0, x_eML0, x_truB, x_truI, x_asB, x_cnx, x_crt, x_cbk, x_cct, x_cxc, x_sSeq, x_sNil, x_sBrk, x_sCnt, x_kEx, x_kSet, x_sEx, x_sSet, x_okO, x_putsN, x_putsC, x_kPar, x_sPar, x_kRet, x_sRet, x_sRetN, x_sIf, x_kSb3, x_kSb2, x_kSb1, x_sSub, x_kAsg, x_sAsg, x_pnm, x_ptp, x_kFor, x_sFor, x_itT, x_iR1, x_kR2, x_iR2, x_iE, x_tY, x_wN, x_wC, List.getElem?_cons_zero, List.getElem?_cons_succ, List.set_cons_zero, List.set_cons_succ, List.append_nil, List.nil_append, List.cons_append, List.length_cons, List.length_nil, Nat.reduceLeDiff, Nat.reduceAdd, Bool.not_true, Bool.not_false, T_ok, x_kMt, x_sMt, x_mtN, x_mtC, x_sWh, true_or, true_and, and_true, if_true, if_false, len2, n21, eq_s] <;> cases decide (w = "not") <;> simp only [bind_ok, bind_ex, outE_ok, outE_ex, retF_nx, retF_rt, retF_xc, x_optR, x_eV, x_eC, x_kB, x_eB, x_eU, x_eF, x_kM, x_eM, x_ift, x_iff, x_eIf, x_kTup, x_kLst, x_eTup, x_eLst, x_aN, x_kCc, x_kC, x_aC, x_tV, x_kCn, x_kCm, x_tCm, x_okB, x_tA, x_tO, x_kN, x_tN, x_tCh, x_kCj, x_kCi, x_kCh, x_eCh, x_kNb, x_kAn, x_kOr, x_kNo, x_eAnd, x_eOr, x_eNot, x_kCl, x_eCall, x_kS2, x_kS1, x_eSl, x_oN, x_asO, x_oS, x_mLoc, x_kML, x_eML, x_kM0, x_kMl0, x_eML0, x_truB, x_truI, x_asB, x_cnx, x_crt, x_cbk, x_cct, x_cxc, x_sSeq, x_sNil, x_sBrk, x_sCnt, x_kEx, x_kSet, x_sEx, x_sSet, x_okO, x_putsN, x_putsC, x_kPar, x_sPar, x_kRet, x_sRet, x_sRetN, x_sIf, x_kSb3, x_kSb2, x_kSb1, x_sSub, x_kAsg, x_sAsg, x_pnm, x_ptp, x_kFor, x_sFor, x_itT, x_iR1, x_kR2, x_iR2, x_iE, x_tY, x_wN, x_wC, List.getElem?_cons_zero, List.getElem?_cons_succ, List.set_cons_zero, List.set_cons_succ, List.append_nil, List.nil_append, List.cons_append, List.length_cons, List.length_nil, Nat.reduceLeDiff, Nat.reduceAdd, Bool.not_true, Bool.not_false, T_ok, x_kMt, x_sMt, x_mtN, x_mtC, x_sWh, true_or, true_and, and_true, if_true, if_false, len2, n21, l1, eq_s, v2, v3, decide_false]
      | _ =>
        simp only [pStr] at h2
        exact ⟨fun _ => by simp only [L_parts, bind_ok, bind_ex, outE_ok, outE_ex, retF_nx, retF_rt, retF_xc, x_optR, x_eV, x_eC, x_kB, x_eB, x_eU, x_eF, x_kM, x_eM, x_ift, x_iff, x_eIf, x_kTup, x_kLst, x_eTup, x_eLst, x_aN, x_kCc, x_kC, x_aC, x_tV, x_kCn, x_kCm, x_tCm, x_okB, x_tA, x_tO, x_kN, x_tN, x_tCh, x_kCj, x_kCi, x_kCh, x_eCh, x_kNb, x_kAn, x_kOr, x_kNo, x_eAnd, x_eOr, x_eNot, x_kCl, x_eCall, x_kS2, x_kS1, x_eSl, x_oN, x_asO, x_oS, x_mLoc, x_kML, x_eML, x_kM0, x_kMl0, x_eML0, x_truB, x_truI, x_asB, x_cnx, x_crt, x_cbk, x_cct, x_cxc, x_sSeq, x_sNil, x_sBrk, x_sCnt, x_kEx, x_kSet, x_sEx, x_sSet, x_okO, x_putsN, x_putsC, x_kPar, x_sPar, x_kRet, x_sRet, x_sRetN, x_sIf, x_kSb3, x_kSb2, x_kSb1, x_sSub, x_kAsg, x_sAsg, x_pnm, x_ptp, x_kFor, x_sFor, x_itT, x_iR1, x_kR2, x_iR2, x_iE, x_tY, x_wN, x_wC, List.getElem?_cons_zero, List.getElem?_cons_succ, List.set_cons_zero, List.set_cons_succ, List.append_nil, List.nil_append, List.cons_append, List.length_cons, List.length_nil, Nat.reduceLeDiff, Nat.reduceAdd, Bool.not_true, Bool.not_false, T_ok, x_kMt, x_sMt, x_mtN, x_mtC, x_sWh, true_or, true_and, and_true, if_true, if_false, h1, len3, nin3, ixa, h2], fun ks e => by simp [partsP] at e⟩
    | a :: b :: c :: g :: r, _, ts =>
      obtain ⟨pa, _, rfl, ta, ts⟩ := ts.uncons
      obtain ⟨pb, _, rfl, tb, ts⟩ := ts.uncons
      obtain ⟨pc, _, rfl, tc, ts⟩ := ts.uncons
      obtain ⟨pg, _, rfl, tg, ts⟩ := ts.uncons
      refine ⟨fun _ => ?_, fun ks e => by unfold partsP at e; split at e <;> simp_all⟩
      have n4 : ∀ M, dIn true (.int ((a :: b :: c :: g :: r).length : Nat)) (.tup [.int 2, .int 3]) M = .ok (.bl true) M := fun M => by
        rw [nin23]
        have q1 : ((2 : Int) == ((a :: b :: c :: g :: r).length : Nat)) = false := by simp; omega
        have q2 : ((3 : Int) == ((a :: b :: c :: g :: r).length : Nat)) = false := by simp; omega
        rw [q1, q2]; rfl
      simp only [List.length_cons] at n4
      simp only [L_parts, bind_ok, bind_ex, outE_ok, outE_ex, retF_nx, retF_rt, retF_xc, x_optR, x_eV, x_eC, x_kB, x_eB, x_eU, x_eF, x_kM, x_eM, x_ift, x_iff, x_eIf, x_kTup, x_kLst, x_eTup, x_eLst, x_aN, x_kCc, x_kC, x_aC, x_tV, x_kCn, x_kCm, x_tCm, x_okB, x_tA, x_tO, x_kN, x_tN, x_tCh, x_kCj, x_kCi, x_kCh, x_eCh, x_kNb, x_kAn, x_kOr, x_kNo, x_eAnd, x_eOr, x_eNot, x_kCl, x_eCall, x_kS2, x_kS1, x_eSl, x_oN, x_asO, x_oS, x_mLoc, x_kML, x_eML, x_kM0, x_kMl0, x_eML0, x_truB, x_truI, x_asB, x_cnx, x_crt, x_cbk, x_cct, x_cxc, x_sSeq, x_sNil, x_sBrk, x_sCnt, x_kEx, x_kSet, x_sEx, x_sSet, x_okO, x_putsN, x_putsC, x_kPar, x_sPar, x_kRet, x_sRet, x_sRetN, x_sIf, x_kSb3, x_kSb2, x_kSb1, x_sSub, x_kAsg, x_sAsg, x_pnm, x_ptp, x_kFor, x_sFor, x_itT, x_iR1, x_kR2, x_iR2, x_iE, x_tY, x_wN, x_wC, List.getElem?_cons_zero, List.getElem?_cons_succ, List.set_cons_zero, List.set_cons_succ, List.append_nil, List.nil_append, List.cons_append, List.length_cons, List.length_nil, Nat.reduceLeDiff, Nat.reduceAdd, Bool.not_true, Bool.not_false, T_ok, x_kMt, x_sMt, x_mtN, x_mtC, x_sWh, true_or, true_and, and_true, if_true, if_false, h1, len_tupN, n4]
  | _ =>
    have h1 := isi_tup t
    have e0 : pTup p = false := by
      cases p <;> first | rfl | (obtain ⟨_, e, _⟩ := t.tuple_inv; cases e)
    rw [e0] at h1
    refine ⟨fun _ => by simp only [L_parts, bind_ok, bind_ex, outE_ok, outE_ex, retF_nx, retF_rt, retF_xc, x_optR, x_eV, x_eC, x_kB, x_eB, x_eU, x_eF, x_kM, x_eM, x_ift, x_iff, x_eIf, x_kTup, x_kLst, x_eTup, x_eLst, x_aN, x_kCc, x_kC, x_aC, x_tV, x_kCn, x_kCm, x_tCm, x_okB, x_tA, x_tO, x_kN, x_tN, x_tCh, x_kCj, x_kCi, x_kCh, x_eCh, x_kNb, x_kAn, x_kOr, x_kNo, x_eAnd, x_eOr, x_eNot, x_kCl, x_eCall, x_kS2, x_kS1, x_eSl, x_oN, x_asO, x_oS, x_mLoc, x_kML, x_eML, x_kM0, x_kMl0, x_eML0, x_truB, x_truI, x_asB, x_cnx, x_crt, x_cbk, x_cct, x_cxc, x_sSeq, x_sNil, x_sBrk, x_sCnt, x_kEx, x_kSet, x_sEx, x_sSet, x_okO, x_putsN, x_putsC, x_kPar, x_sPar, x_kRet, x_sRet, x_sRetN, x_sIf, x_kSb3, x_kSb2, x_kSb1, x_sSub, x_kAsg, x_sAsg, x_pnm, x_ptp, x_kFor, x_sFor, x_itT, x_iR1, x_kR2, x_iR2, x_iE, x_tY, x_wN, x_wC, List.getElem?_cons_zero, List.getElem?_cons_succ, List.set_cons_zero, List.set_cons_succ, List.append_nil, List.nil_append, List.cons_append, List.length_cons, List.length_nil, Nat.reduceLeDiff, Nat.reduceAdd, Bool.not_true, Bool.not_false, T_ok, x_kMt, x_sMt, x_mtN, x_mtC, x_sWh, true_or, true_and, and_true, if_true, if_false, h1], fun ks e => ?_⟩
    cases p <;> first | (simp [partsP] at e; done) | (simp [pTup] at e0)
end G

/-! N2: things: how many operations, counted with a list of what waits. -/
namespace G
open PySem L2
def selM : List PyData → List Nat → Nat
  | [.str w, a], [_, m] => if w = "var" then (if btw a 0 2 then 0 else 99) else if w = "number" then (if btw a (-1000) 1000 then 0 else 99) else if w = "not" then m + 1 else 99
  | [.str w, a, b], [_, m, n] => if w = "and" ∨ w = "or" ∨ w = "xor" ∨ w = "plus" ∨ w = "minus" then m + n + 1 else if w = "shift" then (if btw b 1 4 then m + 1 else 99) else if w = "times" then (if btw a (-9) 9 then n + 1 else 99) else 99
  | _, _ => 99
mutual
/-- the number of operations; 99 and more where it is no expression -/
def manyP : PyData → Nat
  | .tuple xs => selM xs (manyL xs)
  | _ => 99
def manyL : List PyData → List Nat
  | [] => []
  | x :: xs => manyP x :: manyL xs
end
mutual
def sz : PyData → Nat
  | .tuple xs => szs xs + 1
  | .list xs => szs xs + 1
  | _ => 1
def szs : List PyData → Nat
  | [] => 0
  | x :: xs => sz x + szs xs
end
mutual
theorem sz_wt : ∀ p : PyData, 4 * sz p ≤ wt p + 2
  | .none => by simp only [sz, wt]; omega
  | .bool b => by simp only [sz, wt]; omega
  | .int i => by simp only [sz, wt]; omega
  | .str s => by have := StrLaws.reprText_ge2 s; simp only [sz, wt]; omega
  | .list xs => by have := szs_wt xs; simp only [sz, wt]; omega
  | .tuple xs => by have := szs_wt xs; simp only [sz, wt]; omega
  | .dict kvs => by simp only [sz, wt]; omega
theorem szs_wt : ∀ ps : List PyData, 4 * szs ps ≤ wts ps
  | [] => by simp [szs, wts]
  | p :: ps => by have h1 := sz_wt p; have h2 := szs_wt ps; simp only [szs, wts]; omega
end
def manyS (ps : List PyData) : Nat := (ps.map manyP).sum
theorem many_eq (p : PyData) : manyP p = match partsP p with
    | none => 99
    | some ks => manyS ks + if ks.isEmpty then 0 else 1 := by
  cases p with
  | tuple xs =>
    unfold manyP partsP
    match xs with
    | [] => rfl
    | [a] => simp only [manyL]; unfold selM; split <;> simp_all
    | [a, b] =>
      simp only [manyL]
      cases a <;> try (simp only [selM])
      rename_i w
      by_cases v1 : w = "var"
      · subst v1
        simp only [if_true]
        cases btw b 0 2 <;> rfl
      · simp only [if_neg v1]
        by_cases v2 : w = "number"
        · simp only [if_pos v2]
          cases btw b (-1000) 1000 <;> rfl
        · simp only [if_neg v2]
          by_cases v3 : w = "not"
          · simp [v3, manyS]
          · simp only [if_neg v3]
    | [a, b, c] =>
      simp only [manyL]
      cases a <;> try (simp only [selM])
      rename_i w
      by_cases v1 : w = "and" ∨ w = "or" ∨ w = "xor" ∨ w = "plus" ∨ w = "minus"
      · simp only [if_pos v1]; simp [manyS]
      · simp only [if_neg v1]
        by_cases v2 : w = "shift"
        · simp only [if_pos v2]
          cases btw c 1 4 <;> simp [manyS]
        · simp only [if_neg v2]
          by_cases v3 : w = "times"
          · simp only [if_pos v3]
            cases btw b (-9) 9 <;> simp [manyS]
          · simp only [if_neg v3]
    | a :: b :: c :: g :: r => simp only [manyL]; unfold selM; split <;> simp_all
  | _ => unfold manyP partsP; rfl
theorem parts_sz {p : PyData} {ks : List PyData} (h : partsP p = some ks) : szs ks < sz p ∧ ks.length ≤ 2 := by
  unfold partsP at h
  split at h
  · rename_i w a
    split at h
    · split at h <;> cases h; simp only [szs, sz, List.length_nil]; omega
    · split at h
      · split at h <;> cases h; simp only [szs, sz, List.length_nil]; omega
      · split at h <;> cases h; simp only [szs, sz, List.length_cons, List.length_nil]; omega
  · rename_i w a b
    split at h
    · cases h; simp only [szs, sz, List.length_cons, List.length_nil]; omega
    · split at h
      · split at h <;> cases h; simp only [szs, sz, List.length_cons, List.length_nil]; omega
      · split at h
        · split at h <;> cases h; simp only [szs, sz, List.length_cons, List.length_nil]; omega
        · cases h
  · cases h
theorem sz_pos (p : PyData) : 1 ≤ sz p := by cases p <;> simp only [sz] <;> omega
theorem szs_len (ps : List PyData) : ps.length ≤ szs ps := by
  induction ps with
  | nil => simp [szs]
  | cons p ps ih => have := sz_pos p; simp only [szs, List.length_cons]; omega
theorem szs_append (a b : List PyData) : szs (a ++ b) = szs a + szs b := by
  induction a with
  | nil => simp [szs]
  | cons x a ih => simp only [List.cons_append, szs, ih]; omega
theorem manyS_append (a b : List PyData) : manyS (a ++ b) = manyS a + manyS b := by simp [manyS]
def IsCountedT (f : Fn) : Prop := ∀ {x : Nat → Bool} {j : Nat} {M : Mem} {d : D} {p : PyData} {most : Nat}, Th x j M d p → sz p ≤ 900000 → most ≤ 90 → ∃ M', f [d, .int most] M = .ok (if manyP p ≤ most then .int (manyP p : Nat) else .non) M' ∧ Kp N0 M M'
theorem isCountedT {f pf : Fn} (hp : IsPartsT pf) (h : ∀ d g M, f [d, g] M = retF (L_counted pf [some d, some g, none, none, none] M)) : IsCountedT f := fun {x j M d p most} t hsz hm => by
  rw [h]
  have w := wh_R (c := (tCm dNe (eV 3) (eLst aN))) (b := (sSeq (sSet 4 (eCall pf [] (aC (eML0 mPop (eV 3)) aN)))
    (sSeq (sIf (tCm dIsN (eV 4) (eC .non))
    (sRet (eC .non))
    sNil)
    (sSeq (sSet 2 (eB dAdd (eV 2) (eF bInt (aC (eB dNe (eV 4) (eTup aN)) aN))))
    (sSeq (sIf (tCm (dCmpI fun i j => decide (j < i)) (eV 2) (eV 1))
    (sRet (eC .non))
    sNil)
    (sEx (eML mExt (eV 3) (aC (eF bList (aC (eV 4) aN)) aN))))))))
    (fun m L M' => ∃ (ds : List D) (ps : List PyData) (n : Nat) (x4 : Option D), L = [some d, some (.int most), some (.int n), some (.loc M.length), x4] ∧ M'[M.length]? = some (.lst ds) ∧ Ths x j M ds ps ∧ n + manyS ps = manyP p ∧ n ≤ most ∧ szs ps = m ∧ m ≤ 900001 ∧ Kp N0 M M')
    (fun r M' => Kp N0 M M' ∧ ((∃ x4, r = (.nx, [some d, some (.int most), some (.int (manyP p : Nat)), some (.loc M.length), x4]) ∧ manyP p ≤ most) ∨ (r.1 = .rt .non ∧ ¬ manyP p ≤ most)))
    (fun m L M' ⟨ds, ps, n, x4, hL, hq, ts, hn, hnm, hms, hm9, hK⟩ => by
      subst hL
      have hne := (eq_nilL (M := M' ++ [.lst []]) ((Kp.push (S := N0) M' _).at hq id) (push_at M' _)).2
      simp only [bind_ok, bind_ex, outE_ok, outE_ex, retF_nx, retF_rt, retF_xc, x_optR, x_eV, x_eC, x_kB, x_eB, x_eU, x_eF, x_kM, x_eM, x_ift, x_iff, x_eIf, x_kTup, x_kLst, x_eTup, x_eLst, x_aN, x_kCc, x_kC, x_aC, x_tV, x_kCn, x_kCm, x_tCm, x_okB, x_tA, x_tO, x_kN, x_tN, x_tCh, x_kCj, x_kCi, x_kCh, x_eCh, x_kNb, x_kAn, x_kOr, x_kNo, x_eAnd, x_eOr, x_eNot, x_kCl, x_eCall, x_kS2, x_kS1, x_eSl, x_oN, x_asO, x_oS, x_mLoc, x_kML, x_eML, x_kM0, x_kMl0, x_eML0, x_truB, x_truI, x_asB, x_cnx, x_crt, x_cbk, x_cct, x_cxc, x_sSeq, x_sNil, x_sBrk, x_sCnt, x_kEx, x_kSet, x_sEx, x_sSet, x_okO, x_putsN, x_putsC, x_kPar, x_sPar, x_kRet, x_sRet, x_sRetN, x_sIf, x_kSb3, x_kSb2, x_kSb1, x_sSub, x_kAsg, x_sAsg, x_pnm, x_ptp, x_kFor, x_sFor, x_itT, x_iR1, x_kR2, x_iR2, x_iE, x_tY, x_wN, x_wC, List.getElem?_cons_zero, List.getElem?_cons_succ, List.set_cons_zero, List.set_cons_succ, List.append_nil, List.nil_append, List.cons_append, List.length_cons, List.length_nil, Nat.reduceLeDiff, Nat.reduceAdd, Bool.not_true, Bool.not_false, T_ok, x_kMt, x_sMt, x_mtN, x_mtC, x_sWh, true_or, true_and, and_true, if_true, if_false, hne]
      rcases List.eq_nil_or_concat ds with rfl | ⟨ds', a, hl'⟩
      · right
        cases ts.nil_inv
        have : n = manyP p := by simpa [manyS] using hn
        subst this
        exact ⟨rfl, hK.pushn, .inl ⟨_, rfl, hnm⟩⟩
      · rw [List.concat_eq_append] at hl'
        subst hl'
        left
        have he : (!(ds' ++ [a]).isEmpty) = true := by simp
        refine ⟨he, ?_⟩
        have hl : ps.length = ds'.length + 1 := by rw [ts.length]; simp
        rcases List.eq_nil_or_concat ps with rfl | ⟨ps', pa, hp'⟩
        · simp at hl
        rw [List.concat_eq_append] at hp'
        subst hp'
        have t1 : Ths x j M ds' ps' := by
          have z := ts.take ds'.length
          have l1 : ps'.length = ds'.length := by simpa using hl
          rw [List.take_left' rfl, ← l1, List.take_left' rfl] at z
          exact z
        have t2 : Th x j M a pa := by
          have z := ts.drop ds'.length
          have l1 : ps'.length = ds'.length := by simpa using hl
          rw [List.drop_left' rfl, ← l1, List.drop_left' rfl] at z
          obtain ⟨p1, p2, e, z1, z2⟩ := z.uncons
          cases e
          exact z1
        have hq2 : (M' ++ [O.lst []])[M.length]? = some (.lst (ds' ++ [a])) := (Kp.push (S := N0) M' _).at hq id
        have hq3 := set_at (o := O.lst ds') (mem_lt hq2)
        have K1 : Kp N0 M ((M' ++ [O.lst []]).set M.length (.lst ds')) := (hK.pushn).setn (Nat.le_refl _)
        obtain ⟨hpn, hps⟩ := hp (t2.kp0 K1)
        have eqm := many_eq pa
        have hz1 := sz_pos pa
        rw [szs_append] at hms
        simp only [szs] at hms
        rw [manyS_append] at hn
        have hma : manyS [pa] = manyP pa := by simp [manyS]
        cases q : partsP pa with
        | none =>
          rw [q] at eqm
          have eqm : manyP pa = 99 := eqm
          have hN : ∀ M, dIsN .non .non M = .ok (.bl true) M := fun _ => rfl
          simp only [bind_ok, bind_ex, outE_ok, outE_ex, retF_nx, retF_rt, retF_xc, x_optR, x_eV, x_eC, x_kB, x_eB, x_eU, x_eF, x_kM, x_eM, x_ift, x_iff, x_eIf, x_kTup, x_kLst, x_eTup, x_eLst, x_aN, x_kCc, x_kC, x_aC, x_tV, x_kCn, x_kCm, x_tCm, x_okB, x_tA, x_tO, x_kN, x_tN, x_tCh, x_kCj, x_kCi, x_kCh, x_eCh, x_kNb, x_kAn, x_kOr, x_kNo, x_eAnd, x_eOr, x_eNot, x_kCl, x_eCall, x_kS2, x_kS1, x_eSl, x_oN, x_asO, x_oS, x_mLoc, x_kML, x_eML, x_kM0, x_kMl0, x_eML0, x_truB, x_truI, x_asB, x_cnx, x_crt, x_cbk, x_cct, x_cxc, x_sSeq, x_sNil, x_sBrk, x_sCnt, x_kEx, x_kSet, x_sEx, x_sSet, x_okO, x_putsN, x_putsC, x_kPar, x_sPar, x_kRet, x_sRet, x_sRetN, x_sIf, x_kSb3, x_kSb2, x_kSb1, x_sSub, x_kAsg, x_sAsg, x_pnm, x_ptp, x_kFor, x_sFor, x_itT, x_iR1, x_kR2, x_iR2, x_iE, x_tY, x_wN, x_wC, List.getElem?_cons_zero, List.getElem?_cons_succ, List.set_cons_zero, List.set_cons_succ, List.append_nil, List.nil_append, List.cons_append, List.length_cons, List.length_nil, Nat.reduceLeDiff, Nat.reduceAdd, Bool.not_true, Bool.not_false, T_ok, x_kMt, x_sMt, x_mtN, x_mtC, x_sWh, true_or, true_and, and_true, if_true, if_false, pop_ok hq2, hpn q, hN]
          exact .inr ⟨_, rfl, K1, .inr ⟨rfl, by omega⟩⟩
        | some ks =>
          rw [q] at eqm
          have eqm : manyP pa = manyS ks + if ks.isEmpty then 0 else 1 := eqm
          obtain ⟨es, e1, te⟩ := hps ks q
          obtain ⟨z1, z2⟩ := parts_sz q
          have hlen := (te t2).length
          have hN : ∀ M, dIsN (.tup es) .non M = .ok (.bl false) M := fun _ => rfl
          have hb : ∀ M, bInt [.bl (!es.isEmpty)] M = .ok (.int ((if ks.isEmpty then 0 else 1 : Nat) : Int)) M := fun M => by
            simp only [bInt, ← isE hlen]
            cases ks.isEmpty <;> rfl
          simp only [bind_ok, bind_ex, outE_ok, outE_ex, retF_nx, retF_rt, retF_xc, x_optR, x_eV, x_eC, x_kB, x_eB, x_eU, x_eF, x_kM, x_eM, x_ift, x_iff, x_eIf, x_kTup, x_kLst, x_eTup, x_eLst, x_aN, x_kCc, x_kC, x_aC, x_tV, x_kCn, x_kCm, x_tCm, x_okB, x_tA, x_tO, x_kN, x_tN, x_tCh, x_kCj, x_kCi, x_kCh, x_eCh, x_kNb, x_kAn, x_kOr, x_kNo, x_eAnd, x_eOr, x_eNot, x_kCl, x_eCall, x_kS2, x_kS1, x_eSl, x_oN, x_asO, x_oS, x_mLoc, x_kML, x_eML, x_kM0, x_kMl0, x_eML0, x_truB, x_truI, x_asB, x_cnx, x_crt, x_cbk, x_cct, x_cxc, x_sSeq, x_sNil, x_sBrk, x_sCnt, x_kEx, x_kSet, x_sEx, x_sSet, x_okO, x_putsN, x_putsC, x_kPar, x_sPar, x_kRet, x_sRet, x_sRetN, x_sIf, x_kSb3, x_kSb2, x_kSb1, x_sSub, x_kAsg, x_sAsg, x_pnm, x_ptp, x_kFor, x_sFor, x_itT, x_iR1, x_kR2, x_iR2, x_iE, x_tY, x_wN, x_wC, List.getElem?_cons_zero, List.getElem?_cons_succ, List.set_cons_zero, List.set_cons_succ, List.append_nil, List.nil_append, List.cons_append, List.length_cons, List.length_nil, Nat.reduceLeDiff, Nat.reduceAdd, Bool.not_true, Bool.not_false, T_ok, x_kMt, x_sMt, x_mtN, x_mtC, x_sWh, true_or, true_and, and_true, if_true, if_false, pop_ok hq2, e1, hN, (eq_nilT (ds := es)).2, hb, dAdd, dCmpI]
          by_cases hgt : (most : Int) < (n : Int) + ((if ks.isEmpty then 0 else 1 : Nat) : Int)
          · simp only [hgt, decide_true, bind_ok, bind_ex, outE_ok, outE_ex, retF_nx, retF_rt, retF_xc, x_optR, x_eV, x_eC, x_kB, x_eB, x_eU, x_eF, x_kM, x_eM, x_ift, x_iff, x_eIf, x_kTup, x_kLst, x_eTup, x_eLst, x_aN, x_kCc, x_kC, x_aC, x_tV, x_kCn, x_kCm, x_tCm, x_okB, x_tA, x_tO, x_kN, x_tN, x_tCh, x_kCj, x_kCi, x_kCh, x_eCh, x_kNb, x_kAn, x_kOr, x_kNo, x_eAnd, x_eOr, x_eNot, x_kCl, x_eCall, x_kS2, x_kS1, x_eSl, x_oN, x_asO, x_oS, x_mLoc, x_kML, x_eML, x_kM0, x_kMl0, x_eML0, x_truB, x_truI, x_asB, x_cnx, x_crt, x_cbk, x_cct, x_cxc, x_sSeq, x_sNil, x_sBrk, x_sCnt, x_kEx, x_kSet, x_sEx, x_sSet, x_okO, x_putsN, x_putsC, x_kPar, x_sPar, x_kRet, x_sRet, x_sRetN, x_sIf, x_kSb3, x_kSb2, x_kSb1, x_sSub, x_kAsg, x_sAsg, x_pnm, x_ptp, x_kFor, x_sFor, x_itT, x_iR1, x_kR2, x_iR2, x_iE, x_tY, x_wN, x_wC, List.getElem?_cons_zero, List.getElem?_cons_succ, List.set_cons_zero, List.set_cons_succ, List.append_nil, List.nil_append, List.cons_append, List.length_cons, List.length_nil, Nat.reduceLeDiff, Nat.reduceAdd, Bool.not_true, Bool.not_false, T_ok, x_kMt, x_sMt, x_mtN, x_mtC, x_sWh, true_or, true_and, and_true, if_true, if_false]
            exact .inr ⟨_, rfl, K1, .inr ⟨rfl, by omega⟩⟩
          · have hx := (Kp.push (S := N0) _ (O.lst es)).at hq3 id
            have hb2 : ds'.length + es.length ≤ big := by
              have l1 : ps'.length = ds'.length := by simpa using hl
              have l2 := szs_len ps'
              exact Nat.le_trans (show _ ≤ 1000000 by omega) (by decide)
            simp only [hgt, decide_false, bind_ok, bind_ex, outE_ok, outE_ex, retF_nx, retF_rt, retF_xc, x_optR, x_eV, x_eC, x_kB, x_eB, x_eU, x_eF, x_kM, x_eM, x_ift, x_iff, x_eIf, x_kTup, x_kLst, x_eTup, x_eLst, x_aN, x_kCc, x_kC, x_aC, x_tV, x_kCn, x_kCm, x_tCm, x_okB, x_tA, x_tO, x_kN, x_tN, x_tCh, x_kCj, x_kCi, x_kCh, x_eCh, x_kNb, x_kAn, x_kOr, x_kNo, x_eAnd, x_eOr, x_eNot, x_kCl, x_eCall, x_kS2, x_kS1, x_eSl, x_oN, x_asO, x_oS, x_mLoc, x_kML, x_eML, x_kM0, x_kMl0, x_eML0, x_truB, x_truI, x_asB, x_cnx, x_crt, x_cbk, x_cct, x_cxc, x_sSeq, x_sNil, x_sBrk, x_sCnt, x_kEx, x_kSet, x_sEx, x_sSet, x_okO, x_putsN, x_putsC, x_kPar, x_sPar, x_kRet, x_sRet, x_sRetN, x_sIf, x_kSb3, x_kSb2, x_kSb1, x_sSub, x_kAsg, x_sAsg, x_pnm, x_ptp, x_kFor, x_sFor, x_itT, x_iR1, x_kR2, x_iR2, x_iE, x_tY, x_wN, x_wC, List.getElem?_cons_zero, List.getElem?_cons_succ, List.set_cons_zero, List.set_cons_succ, List.append_nil, List.nil_append, List.cons_append, List.length_cons, List.length_nil, Nat.reduceLeDiff, Nat.reduceAdd, Bool.not_true, Bool.not_false, T_ok, x_kMt, x_sMt, x_mtN, x_mtC, x_sWh, true_or, true_and, and_true, if_true, if_false, list_tup, ext_ok hx (push_at _ _) hb2]
            refine .inl ⟨szs (ps' ++ ks), by rw [szs_append]; omega, ds' ++ es, ps' ++ ks, n + (if ks.isEmpty then 0 else 1), _, rfl, ?_, ?_, ?_, ?_, rfl, ?_, ?_⟩
            · rw [set_at (mem_lt hx)]
            · exact t1.append (te t2)
            · rw [manyS_append]; omega
            · omega
            · rw [szs_append]; omega
            · exact (K1.pushn).setn (Nat.le_refl _))
    1000000 (sz p) [some d, some (.int most), some (.int (0 : Nat)), some (.loc M.length), none] (M ++ [.lst [d]])
    ⟨[d], [p], 0, none, rfl, push_at _ _, ths_cons t ths_nil, by simp [manyS], Nat.zero_le _, by simp [szs], by omega, Kp.push _ _⟩ (by omega)
  obtain ⟨r, M', e, k, z⟩ := w.get
  simp only [Int.natCast_zero] at e
  rcases z with ⟨x4, rfl, z⟩ | ⟨z1, z2⟩
  · refine ⟨M', ?_, k⟩
    rw [if_pos z]
    simp only [L_counted, bind_ok, bind_ex, outE_ok, outE_ex, retF_nx, retF_rt, retF_xc, x_optR, x_eV, x_eC, x_kB, x_eB, x_eU, x_eF, x_kM, x_eM, x_ift, x_iff, x_eIf, x_kTup, x_kLst, x_eTup, x_eLst, x_aN, x_kCc, x_kC, x_aC, x_tV, x_kCn, x_kCm, x_tCm, x_okB, x_tA, x_tO, x_kN, x_tN, x_tCh, x_kCj, x_kCi, x_kCh, x_eCh, x_kNb, x_kAn, x_kOr, x_kNo, x_eAnd, x_eOr, x_eNot, x_kCl, x_eCall, x_kS2, x_kS1, x_eSl, x_oN, x_asO, x_oS, x_mLoc, x_kML, x_eML, x_kM0, x_kMl0, x_eML0, x_truB, x_truI, x_asB, x_cnx, x_crt, x_cbk, x_cct, x_cxc, x_sSeq, x_sNil, x_sBrk, x_sCnt, x_kEx, x_kSet, x_sEx, x_sSet, x_okO, x_putsN, x_putsC, x_kPar, x_sPar, x_kRet, x_sRet, x_sRetN, x_sIf, x_kSb3, x_kSb2, x_kSb1, x_sSub, x_kAsg, x_sAsg, x_pnm, x_ptp, x_kFor, x_sFor, x_itT, x_iR1, x_kR2, x_iR2, x_iE, x_tY, x_wN, x_wC, List.getElem?_cons_zero, List.getElem?_cons_succ, List.set_cons_zero, List.set_cons_succ, List.append_nil, List.nil_append, List.cons_append, List.length_cons, List.length_nil, Nat.reduceLeDiff, Nat.reduceAdd, Bool.not_true, Bool.not_false, T_ok, x_kMt, x_sMt, x_mtN, x_mtC, x_sWh, true_or, true_and, and_true, if_true, if_false, e]
  · obtain ⟨fl, L'⟩ := r
    simp only at z1
    subst z1
    refine ⟨M', ?_, k⟩
    rw [if_neg z2]
    simp only [L_counted, bind_ok, bind_ex, outE_ok, outE_ex, retF_nx, retF_rt, retF_xc, x_optR, x_eV, x_eC, x_kB, x_eB, x_eU, x_eF, x_kM, x_eM, x_ift, x_iff, x_eIf, x_kTup, x_kLst, x_eTup, x_eLst, x_aN, x_kCc, x_kC, x_aC, x_tV, x_kCn, x_kCm, x_tCm, x_okB, x_tA, x_tO, x_kN, x_tN, x_tCh, x_kCj, x_kCi, x_kCh, x_eCh, x_kNb, x_kAn, x_kOr, x_kNo, x_eAnd, x_eOr, x_eNot, x_kCl, x_eCall, x_kS2, x_kS1, x_eSl, x_oN, x_asO, x_oS, x_mLoc, x_kML, x_eML, x_kM0, x_kMl0, x_eML0, x_truB, x_truI, x_asB, x_cnx, x_crt, x_cbk, x_cct, x_cxc, x_sSeq, x_sNil, x_sBrk, x_sCnt, x_kEx, x_kSet, x_sEx, x_sSet, x_okO, x_putsN, x_putsC, x_kPar, x_sPar, x_kRet, x_sRet, x_sRetN, x_sIf, x_kSb3, x_kSb2, x_kSb1, x_sSub, x_kAsg, x_sAsg, x_pnm, x_ptp, x_kFor, x_sFor, x_itT, x_iR1, x_kR2, x_iR2, x_iE, x_tY, x_wN, x_wC, List.getElem?_cons_zero, List.getElem?_cons_succ, List.set_cons_zero, List.set_cons_succ, List.append_nil, List.nil_append, List.cons_append, List.length_cons, List.length_nil, Nat.reduceLeDiff, Nat.reduceAdd, Bool.not_true, Bool.not_false, T_ok, x_kMt, x_sMt, x_mtN, x_mtC, x_sWh, true_or, true_and, and_true, if_true, if_false, e]
end G

/-! N3: things: is_expression; the laws' own look at expressions. -/
namespace G
open PySem L2
def IsExT (f : Fn) : Prop := ∀ {x : Nat → Bool} {j : Nat} {M : Mem} {d : D} {p : PyData}, Th x j M d p → sz p ≤ 900000 → ∃ M', f [d] M = .ok (.bl (decide (manyP p ≤ 10))) M' ∧ Kp N0 M M'
theorem isExT {f cf : Fn} (hc : IsCountedT cf) (h : ∀ d M, f [d] M = retF (L_isex cf [some d] M)) : IsExT f := fun {x j M d p} t hs => by
  obtain ⟨M', e1, k⟩ := hc (most := 10) t hs (by decide)
  refine ⟨M', ?_, k⟩
  rw [h]
  have e1' : cf [d, .int 10] M = .ok (if manyP p ≤ 10 then .int (manyP p : Nat) else .non) M' := e1
  simp only [L_isex, bind_ok, bind_ex, outE_ok, outE_ex, retF_nx, retF_rt, retF_xc, x_optR, x_eV, x_eC, x_kB, x_eB, x_eU, x_eF, x_kM, x_eM, x_ift, x_iff, x_eIf, x_kTup, x_kLst, x_eTup, x_eLst, x_aN, x_kCc, x_kC, x_aC, x_tV, x_kCn, x_kCm, x_tCm, x_okB, x_tA, x_tO, x_kN, x_tN, x_tCh, x_kCj, x_kCi, x_kCh, x_eCh, x_kNb, x_kAn, x_kOr, x_kNo, x_eAnd, x_eOr, x_eNot, x_kCl, x_eCall, x_kS2, x_kS1, x_eSl, x_oN, x_asO, x_oS, x_mLoc, x_kML, x_eML, x_kM0, x_kMl0, x_eML0, x_truB, x_truI, x_asB, x_cnx, x_crt, x_cbk, x_cct, x_cxc, x_sSeq, x_sNil, x_sBrk, x_sCnt, x_kEx, x_kSet, x_sEx, x_sSet, x_okO, x_putsN, x_putsC, x_kPar, x_sPar, x_kRet, x_sRet, x_sRetN, x_sIf, x_kSb3, x_kSb2, x_kSb1, x_sSub, x_kAsg, x_sAsg, x_pnm, x_ptp, x_kFor, x_sFor, x_itT, x_iR1, x_kR2, x_iR2, x_iE, x_tY, x_wN, x_wC, List.getElem?_cons_zero, List.getElem?_cons_succ, List.set_cons_zero, List.set_cons_succ, List.append_nil, List.nil_append, List.cons_append, List.length_cons, List.length_nil, Nat.reduceLeDiff, Nat.reduceAdd, Bool.not_true, Bool.not_false, T_ok, x_kMt, x_sMt, x_mtN, x_mtC, x_sWh, true_or, true_and, and_true, if_true, if_false, e1']
  by_cases q : manyP p ≤ 10
  · simp only [q, if_true, decide_true]; rfl
  · simp only [q, if_false, decide_false]; rfl
theorem sl_tl {a : D} {r : List D} {M : Mem} : dSl (.tup (a :: r)) (some 1) none M = .ok (.tup r) M := by
  have e : cutD (a :: r) (some 1) none = r := by
    unfold cutD
    have h1 : HT.sIx (a :: r).length 0 (some 1) = 1 := by
      show HT.sIx (a :: r).length 0 (some ((1 : Nat) : Int)) = 1
      rw [HT.sIx_nat, List.length_cons]; omega
    rw [h1, HT.sIx_none, List.drop_succ_cons, List.drop_zero, List.length_cons]
    exact List.take_of_length_le (by omega)
  simp only [dSl, e]
theorem sl_h1 {a : D} {r : List D} {M : Mem} : dSl (.tup (a :: r)) none (some 1) M = .ok (.tup [a]) M := by
  have e : cutD (a :: r) none (some 1) = [a] := by
    unfold cutD
    have h1 : HT.sIx (a :: r).length (a :: r).length (some 1) = 1 := by
      show HT.sIx (a :: r).length (a :: r).length (some ((1 : Nat) : Int)) = 1
      rw [HT.sIx_nat, List.length_cons]; omega
    rw [h1, HT.sIx_none]; rfl
  simp only [dSl, e]
def L_law_parts (lw : Fn) : LS :=
  (sSeq (sIf ((tO (tN (tV (eF (bIsi "tuple") (aC (eV 0) aN)))) (tO (tCm dEq (eV 0) (eTup aN)) (tN (tV (eF (bIsi "str") (aC (eB dIx (eV 0) (eC (.int 0))) aN)))))))
  (sRet (eC .non))
  sNil)
  (sSeq (sPar [1, 2] (aC (eB dIx (eV 0) (eC (.int 0))) (aC (eSl (eV 0) (oS (eC (.int 1))) oN) aN)))
  (sSeq (sIf ((tO (tCm dEq (eV 1) (eC (.str "var"))) (tCm dEq (eV 1) (eC (.str "number")))))
  (sSeq (sAsg (.tp [3, 4]) (eIf (tCm dEq (eV 1) (eC (.str "var"))) (eTup (aC (eC (.int 0)) (aC (eC (.int 2)) aN))) (eTup (aC (eU dNeg (eC (.int 1000))) (aC (eC (.int 1000)) aN)))))
  (sRet (eIf ((tA (tCm dEq (eF bLen (aC (eV 2) aN)) (eC (.int 1))) (tV (eCall lw [] (aC (eB dIx (eV 2) (eC (.int 0))) (aC (eV 3) (aC (eV 4) aN))))))) (eTup aN) (eC .non))))
  sNil)
  (sSeq (sIf (tCm dEq (eV 1) (eC (.str "not")))
  (sRet (eIf (tCm dEq (eF bLen (aC (eV 2) aN)) (eC (.int 1))) (eV 2) (eC .non)))
  sNil)
  (sSeq (sIf (tCm dNe (eF bLen (aC (eV 2) aN)) (eC (.int 2)))
  (sRet (eC .non))
  sNil)
  (sSeq (sIf (tCm dEq (eV 1) (eC (.str "shift")))
  (sRet (eIf (tV (eCall lw [] (aC (eB dIx (eV 2) (eC (.int 1))) (aC (eC (.int 1)) (aC (eC (.int 4)) aN))))) (eSl (eV 2) oN (oS (eC (.int 1)))) (eC .non)))
  sNil)
  (sSeq (sIf (tCm dEq (eV 1) (eC (.str "times")))
  (sRet (eIf (tV (eCall lw [] (aC (eB dIx (eV 2) (eC (.int 0))) (aC (eU dNeg (eC (.int 9))) (aC (eC (.int 9)) aN))))) (eSl (eV 2) (oS (eC (.int 1))) oN) (eC .non)))
  sNil)
  (sRet (eIf (tCm (dIn false) (eV 1) (eTup (aC (eC (.str "and")) (aC (eC (.str "or")) (aC (eC (.str "xor")) (aC (eC (.str "plus")) (aC (eC (.str "minus")) aN))))))) (eV 2) (eC .non))))))))))
theorem isLpartsT {f lw : Fn} (hb : IsBtwT lw) (h : ∀ d M, f [d] M = retF (L_law_parts lw [some d, none, none, none, none] M)) : IsPartsT f := fun {x j M d p} t => by
  rw [h]
  cases d with
  | tup ds =>
    obtain ⟨ps, rfl, ts⟩ := t.tup_inv
    have h1 : bIsi "tuple" [.tup ds] M = .ok (.bl true) M := isi_tt
    have h0 := (eq_nilT (ds := ds) (M := M)).1
    match ds, ps, ts with
    | [], _, ts =>
      cases ts.nil_inv
      exact ⟨fun _ => by simp only [L_law_parts, bind_ok, bind_ex, outE_ok, outE_ex, retF_nx, retF_rt, retF_xc, x_optR, x_eV, x_eC, x_kB, x_eB, x_eU, x_eF, x_kM, x_eM, x_ift, x_iff, x_eIf, x_kTup, x_kLst, x_eTup, x_eLst, x_aN, x_kCc, x_kC, x_aC, x_tV, x_kCn, x_kCm, x_tCm, x_okB, x_tA, x_tO, x_kN, x_tN, x_tCh, x_kCj, x_kCi, x_kCh, x_eCh, x_kNb, x_kAn, x_kOr, x_kNo, x_eAnd, x_eOr, x_eNot, x_kCl, x_eCall, x_kS2, x_kS1, x_eSl, x_oN, x_asO, x_oS, x_mLoc, x_kML, x_eML, x_kM0, x_kMl0, x_eML0, x_truB, x_truI, x_asB, x_cnx, x_crt, x_cbk, x_cct, x_cxc, x_sSeq, x_sNil, x_sBrk, x_sCnt, x_kEx, x_kSet, x_sEx, x_sSet, x_okO, x_putsN, x_putsC, x_kPar, x_sPar, x_kRet, x_sRet, x_sRetN, x_sIf, x_kSb3, x_kSb2, x_kSb1, x_sSub, x_kAsg, x_sAsg, x_pnm, x_ptp, x_kFor, x_sFor, x_itT, x_iR1, x_kR2, x_iR2, x_iE, x_tY, x_wN, x_wC, List.getElem?_cons_zero, List.getElem?_cons_succ, List.set_cons_zero, List.set_cons_succ, List.append_nil, List.nil_append, List.cons_append, List.length_cons, List.length_nil, Nat.reduceLeDiff, Nat.reduceAdd, Bool.not_true, Bool.not_false, T_ok, x_kMt, x_sMt, x_mtN, x_mtC, x_sWh, true_or, true_and, and_true, if_true, if_false, h1, h0]; rfl, nofun⟩
    | a :: rest, _, ts0 =>
      obtain ⟨pa, prest, rfl, ta, tsr⟩ := ts0.uncons
      have h2 := isi_str ta
      have hlen := tsr.length
      clear ts0
      simp only [List.isEmpty_cons] at h0
      obtain ⟨n, hn⟩ : ∃ n : Int, n = rest.length := ⟨_, rfl⟩
      have hl3 : ∀ M, bLen [.tup rest] M = .ok (.int n) M := fun _ => by rw [hn]; rfl
      cases pa with
      | str w =>
        have e := ta.flat_inv.2.1 w rfl
        subst e
        simp only [pStr] at h2
        by_cases v1 : w = "var"
        · subst v1
          have l1 : ∀ M, dEq (.str "var") (.str "var") M = .ok (.bl true) M := fun _ => rfl
          simp only [L_law_parts, bind_ok, bind_ex, outE_ok, outE_ex, retF_nx, retF_rt, retF_xc, x_optR, x_eV, x_eC, x_kB, x_eB, x_eU, x_eF, x_kM, x_eM, x_ift, x_iff, x_eIf, x_kTup, x_kLst, x_eTup, x_eLst, x_aN, x_kCc, x_kC, x_aC, x_tV, x_kCn, x_kCm, x_tCm, x_okB, x_tA, x_tO, x_kN, x_tN, x_tCh, x_kCj, x_kCi, x_kCh, x_eCh, x_kNb, x_kAn, x_kOr, x_kNo, x_eAnd, x_eOr, x_eNot, x_kCl, x_eCall, x_kS2, x_kS1, x_eSl, x_oN, x_asO, x_oS, x_mLoc, x_kML, x_eML, x_kM0, x_kMl0, x_eML0, x_truB, x_truI, x_asB, x_cnx, x_crt, x_cbk, x_cct, x_cxc, x_sSeq, x_sNil, x_sBrk, x_sCnt, x_kEx, x_kSet, x_sEx, x_sSet, x_okO, x_putsN, x_putsC, x_kPar, x_sPar, x_kRet, x_sRet, x_sRetN, x_sIf, x_kSb3, x_kSb2, x_kSb1, x_sSub, x_kAsg, x_sAsg, x_pnm, x_ptp, x_kFor, x_sFor, x_itT, x_iR1, x_kR2, x_iR2, x_iE, x_tY, x_wN, x_wC, List.getElem?_cons_zero, List.getElem?_cons_succ, List.set_cons_zero, List.set_cons_succ, List.append_nil, List.nil_append, List.cons_append, List.length_cons, List.length_nil, Nat.reduceLeDiff, Nat.reduceAdd, Bool.not_true, Bool.not_false, T_ok, x_kMt, x_sMt, x_mtN, x_mtC, x_sWh, true_or, true_and, and_true, if_true, if_false, h1, h0, ixa, h2, sl_tl, l1, hl3, eq_i]
          match rest, prest, tsr, hlen with
          | [b], [pb], ts, _ =>
            obtain ⟨_, _, e, tb, _⟩ := ts.uncons
            cases e
            have e1 : partsP (.tuple [.str "var", pb]) = if btw pb 0 2 then some [] else none := rfl
            rw [e1]
            have hx : decide (n = 1) = true := by subst hn; rfl
            have hbb := hb (lo := 0) (hi := 2) tb
            simp only [hx, bind_ok, bind_ex, outE_ok, outE_ex, retF_nx, retF_rt, retF_xc, x_optR, x_eV, x_eC, x_kB, x_eB, x_eU, x_eF, x_kM, x_eM, x_ift, x_iff, x_eIf, x_kTup, x_kLst, x_eTup, x_eLst, x_aN, x_kCc, x_kC, x_aC, x_tV, x_kCn, x_kCm, x_tCm, x_okB, x_tA, x_tO, x_kN, x_tN, x_tCh, x_kCj, x_kCi, x_kCh, x_eCh, x_kNb, x_kAn, x_kOr, x_kNo, x_eAnd, x_eOr, x_eNot, x_kCl, x_eCall, x_kS2, x_kS1, x_eSl, x_oN, x_asO, x_oS, x_mLoc, x_kML, x_eML, x_kM0, x_kMl0, x_eML0, x_truB, x_truI, x_asB, x_cnx, x_crt, x_cbk, x_cct, x_cxc, x_sSeq, x_sNil, x_sBrk, x_sCnt, x_kEx, x_kSet, x_sEx, x_sSet, x_okO, x_putsN, x_putsC, x_kPar, x_sPar, x_kRet, x_sRet, x_sRetN, x_sIf, x_kSb3, x_kSb2, x_kSb1, x_sSub, x_kAsg, x_sAsg, x_pnm, x_ptp, x_kFor, x_sFor, x_itT, x_iR1, x_kR2, x_iR2, x_iE, x_tY, x_wN, x_wC, List.getElem?_cons_zero, List.getElem?_cons_succ, List.set_cons_zero, List.set_cons_succ, List.append_nil, List.nil_append, List.cons_append, List.length_cons, List.length_nil, Nat.reduceLeDiff, Nat.reduceAdd, Bool.not_true, Bool.not_false, T_ok, x_kMt, x_sMt, x_mtN, x_mtC, x_sWh, true_or, true_and, and_true, if_true, if_false, ixa, hbb]
            cases q : btw pb 0 2 with
            | true => simp only [bind_ok, bind_ex, outE_ok, outE_ex, retF_nx, retF_rt, retF_xc, x_optR, x_eV, x_eC, x_kB, x_eB, x_eU, x_eF, x_kM, x_eM, x_ift, x_iff, x_eIf, x_kTup, x_kLst, x_eTup, x_eLst, x_aN, x_kCc, x_kC, x_aC, x_tV, x_kCn, x_kCm, x_tCm, x_okB, x_tA, x_tO, x_kN, x_tN, x_tCh, x_kCj, x_kCi, x_kCh, x_eCh, x_kNb, x_kAn, x_kOr, x_kNo, x_eAnd, x_eOr, x_eNot, x_kCl, x_eCall, x_kS2, x_kS1, x_eSl, x_oN, x_asO, x_oS, x_mLoc, x_kML, x_eML, x_kM0, x_kMl0, x_eML0, x_truB, x_truI, x_asB, x_cnx, x_crt, x_cbk, x_cct, x_cxc, x_sSeq, x_sNil, x_sBrk, x_sCnt, x_kEx, x_kSet, x_sEx, x_sSet, x_okO, x_putsN, x_putsC, x_kPar, x_sPar, x_kRet, x_sRet, x_sRetN, x_sIf, x_kSb3, x_kSb2, x_kSb1, x_sSub, x_kAsg, x_sAsg, x_pnm, x_ptp, x_kFor, x_sFor, x_itT, x_iR1, x_kR2, x_iR2, x_iE, x_tY, x_wN, x_wC, List.getElem?_cons_zero, List.getElem?_cons_succ, List.set_cons_zero, List.set_cons_succ, List.append_nil, List.nil_append, List.cons_append, List.length_cons, List.length_nil, Nat.reduceLeDiff, Nat.reduceAdd, Bool.not_true, Bool.not_false, T_ok, x_kMt, x_sMt, x_mtN, x_mtC, x_sWh, true_or, true_and, and_true, if_true, if_false, if_true]; exact ⟨nofun, fun ks e => by cases e; exact ⟨[], rfl, fun _ => ths_nil⟩⟩
            | false => simp only [bind_ok, bind_ex, outE_ok, outE_ex, retF_nx, retF_rt, retF_xc, x_optR, x_eV, x_eC, x_kB, x_eB, x_eU, x_eF, x_kM, x_eM, x_ift, x_iff, x_eIf, x_kTup, x_kLst, x_eTup, x_eLst, x_aN, x_kCc, x_kC, x_aC, x_tV, x_kCn, x_kCm, x_tCm, x_okB, x_tA, x_tO, x_kN, x_tN, x_tCh, x_kCj, x_kCi, x_kCh, x_eCh, x_kNb, x_kAn, x_kOr, x_kNo, x_eAnd, x_eOr, x_eNot, x_kCl, x_eCall, x_kS2, x_kS1, x_eSl, x_oN, x_asO, x_oS, x_mLoc, x_kML, x_eML, x_kM0, x_kMl0, x_eML0, x_truB, x_truI, x_asB, x_cnx, x_crt, x_cbk, x_cct, x_cxc, x_sSeq, x_sNil, x_sBrk, x_sCnt, x_kEx, x_kSet, x_sEx, x_sSet, x_okO, x_putsN, x_putsC, x_kPar, x_sPar, x_kRet, x_sRet, x_sRetN, x_sIf, x_kSb3, x_kSb2, x_kSb1, x_sSub, x_kAsg, x_sAsg, x_pnm, x_ptp, x_kFor, x_sFor, x_itT, x_iR1, x_kR2, x_iR2, x_iE, x_tY, x_wN, x_wC, List.getElem?_cons_zero, List.getElem?_cons_succ, List.set_cons_zero, List.set_cons_succ, List.append_nil, List.nil_append, List.cons_append, List.length_cons, List.length_nil, Nat.reduceLeDiff, Nat.reduceAdd, Bool.not_true, Bool.not_false, T_ok, x_kMt, x_sMt, x_mtN, x_mtC, x_sWh, true_or, true_and, and_true, if_true, if_false, Bool.false_eq_true, if_false]; exact ⟨fun _ => trivial, nofun⟩
          | [], [], _, _ =>
            have hx : decide (n = 1) = false := by subst hn; rfl
            simp only [hx, bind_ok, bind_ex, outE_ok, outE_ex, retF_nx, retF_rt, retF_xc, x_optR, x_eV, x_eC, x_kB, x_eB, x_eU, x_eF, x_kM, x_eM, x_ift, x_iff, x_eIf, x_kTup, x_kLst, x_eTup, x_eLst, x_aN, x_kCc, x_kC, x_aC, x_tV, x_kCn, x_kCm, x_tCm, x_okB, x_tA, x_tO, x_kN, x_tN, x_tCh, x_kCj, x_kCi, x_kCh, x_eCh, x_kNb, x_kAn, x_kOr, x_kNo, x_eAnd, x_eOr, x_eNot, x_kCl, x_eCall, x_kS2, x_kS1, x_eSl, x_oN, x_asO, x_oS, x_mLoc, x_kML, x_eML, x_kM0, x_kMl0, x_eML0, x_truB, x_truI, x_asB, x_cnx, x_crt, x_cbk, x_cct, x_cxc, x_sSeq, x_sNil, x_sBrk, x_sCnt, x_kEx, x_kSet, x_sEx, x_sSet, x_okO, x_putsN, x_putsC, x_kPar, x_sPar, x_kRet, x_sRet, x_sRetN, x_sIf, x_kSb3, x_kSb2, x_kSb1, x_sSub, x_kAsg, x_sAsg, x_pnm, x_ptp, x_kFor, x_sFor, x_itT, x_iR1, x_kR2, x_iR2, x_iE, x_tY, x_wN, x_wC, List.getElem?_cons_zero, List.getElem?_cons_succ, List.set_cons_zero, List.set_cons_succ, List.append_nil, List.nil_append, List.cons_append, List.length_cons, List.length_nil, Nat.reduceLeDiff, Nat.reduceAdd, Bool.not_true, Bool.not_false, T_ok, x_kMt, x_sMt, x_mtN, x_mtC, x_sWh, true_or, true_and, and_true, if_true, if_false]
            exact ⟨fun _ => trivial, nofun⟩
          | b :: c :: r, pb :: pc :: pr, _, _ =>
            have hx : decide (n = 1) = false := by subst hn; simp; omega
            simp only [hx, bind_ok, bind_ex, outE_ok, outE_ex, retF_nx, retF_rt, retF_xc, x_optR, x_eV, x_eC, x_kB, x_eB, x_eU, x_eF, x_kM, x_eM, x_ift, x_iff, x_eIf, x_kTup, x_kLst, x_eTup, x_eLst, x_aN, x_kCc, x_kC, x_aC, x_tV, x_kCn, x_kCm, x_tCm, x_okB, x_tA, x_tO, x_kN, x_tN, x_tCh, x_kCj, x_kCi, x_kCh, x_eCh, x_kNb, x_kAn, x_kOr, x_kNo, x_eAnd, x_eOr, x_eNot, x_kCl, x_eCall, x_kS2, x_kS1, x_eSl, x_oN, x_asO, x_oS, x_mLoc, x_kML, x_eML, x_kM0, x_kMl0, x_eML0, x_truB, x_truI, x_asB, x_cnx, x_crt, x_cbk, x_cct, x_cxc, x_sSeq, x_sNil, x_sBrk, x_sCnt, x_kEx, x_kSet, x_sEx, x_sSet, x_okO, x_putsN, x_putsC, x_kPar, x_sPar, x_kRet, x_sRet, x_sRetN, x_sIf, x_kSb3, x_kSb2, x_kSb1, x_sSub, x_kAsg, x_sAsg, x_pnm, x_ptp, x_kFor, x_sFor, x_itT, x_iR1, x_kR2, x_iR2, x_iE, x_tY, x_wN, x_wC, List.getElem?_cons_zero, List.getElem?_cons_succ, List.set_cons_zero, List.set_cons_succ, List.append_nil, List.nil_append, List.cons_append, List.length_cons, List.length_nil, Nat.reduceLeDiff, Nat.reduceAdd, Bool.not_true, Bool.not_false, T_ok, x_kMt, x_sMt, x_mtN, x_mtC, x_sWh, true_or, true_and, and_true, if_true, if_false]
            refine ⟨fun _ => trivial, fun ks e => ?_⟩
            cases pr with
            | nil =>
              have e3 : partsP (.tuple [.str "var", pb, pc]) = none := rfl
              rw [e3] at e; cases e
            | cons _ _ => simp [partsP] at e
        · by_cases v2 : w = "number"
          · subst v2
            have l0 : ∀ M, dEq (.str "number") (.str "var") M = .ok (.bl false) M := fun _ => rfl
            have l1 : ∀ M, dEq (.str "number") (.str "number") M = .ok (.bl true) M := fun _ => rfl
            simp only [L_law_parts, bind_ok, bind_ex, outE_ok, outE_ex, retF_nx, retF_rt, retF_xc, x_optR, x_eV, x_eC, x_kB, x_eB, x_eU, x_eF, x_kM, x_eM, x_ift, x_iff, x_eIf, x_kTup, x_kLst, x_eTup, x_eLst, x_aN, x_kCc, x_kC, x_aC, x_tV, x_kCn, x_kCm, x_tCm, x_okB, x_tA, x_tO, x_kN, x_tN, x_tCh, x_kCj, x_kCi, x_kCh, x_eCh, x_kNb, x_kAn, x_kOr, x_kNo, x_eAnd, x_eOr, x_eNot, x_kCl, x_eCall, x_kS2, x_kS1, x_eSl, x_oN, x_asO, x_oS, x_mLoc, x_kML, x_eML, x_kM0, x_kMl0, x_eML0, x_truB, x_truI, x_asB, x_cnx, x_crt, x_cbk, x_cct, x_cxc, x_sSeq, x_sNil, x_sBrk, x_sCnt, x_kEx, x_kSet, x_sEx, x_sSet, x_okO, x_putsN, x_putsC, x_kPar, x_sPar, x_kRet, x_sRet, x_sRetN, x_sIf, x_kSb3, x_kSb2, x_kSb1, x_sSub, x_kAsg, x_sAsg, x_pnm, x_ptp, x_kFor, x_sFor, x_itT, x_iR1, x_kR2, x_iR2, x_iE, x_tY, x_wN, x_wC, List.getElem?_cons_zero, List.getElem?_cons_succ, List.set_cons_zero, List.set_cons_succ, List.append_nil, List.nil_append, List.cons_append, List.length_cons, List.length_nil, Nat.reduceLeDiff, Nat.reduceAdd, Bool.not_true, Bool.not_false, T_ok, x_kMt, x_sMt, x_mtN, x_mtC, x_sWh, true_or, true_and, and_true, if_true, if_false, h1, h0, ixa, h2, sl_tl, l0, l1, hl3, eq_i, dNeg]
            match rest, prest, tsr, hlen with
            | [b], [pb], ts, _ =>
              obtain ⟨_, _, e, tb, _⟩ := ts.uncons
              cases e
              have e1 : partsP (.tuple [.str "number", pb]) = if btw pb (-1000) 1000 then some [] else none := rfl
              rw [e1]
              have hx : decide (n = 1) = true := by subst hn; rfl
              have hbb := hb (lo := -1000) (hi := 1000) tb
              simp only [hx, bind_ok, bind_ex, outE_ok, outE_ex, retF_nx, retF_rt, retF_xc, x_optR, x_eV, x_eC, x_kB, x_eB, x_eU, x_eF, x_kM, x_eM, x_ift, x_iff, x_eIf, x_kTup, x_kLst, x_eTup, x_eLst, x_aN, x_kCc, x_kC, x_aC, x_tV, x_kCn, x_kCm, x_tCm, x_okB, x_tA, x_tO, x_kN, x_tN, x_tCh, x_kCj, x_kCi, x_kCh, x_eCh, x_kNb, x_kAn, x_kOr, x_kNo, x_eAnd, x_eOr, x_eNot, x_kCl, x_eCall, x_kS2, x_kS1, x_eSl, x_oN, x_asO, x_oS, x_mLoc, x_kML, x_eML, x_kM0, x_kMl0, x_eML0, x_truB, x_truI, x_asB, x_cnx, x_crt, x_cbk, x_cct, x_cxc, x_sSeq, x_sNil, x_sBrk, x_sCnt, x_kEx, x_kSet, x_sEx, x_sSet, x_okO, x_putsN, x_putsC, x_kPar, x_sPar, x_kRet, x_sRet, x_sRetN, x_sIf, x_kSb3, x_kSb2, x_kSb1, x_sSub, x_kAsg, x_sAsg, x_pnm, x_ptp, x_kFor, x_sFor, x_itT, x_iR1, x_kR2, x_iR2, x_iE, x_tY, x_wN, x_wC, List.getElem?_cons_zero, List.getElem?_cons_succ, List.set_cons_zero, List.set_cons_succ, List.append_nil, List.nil_append, List.cons_append, List.length_cons, List.length_nil, Nat.reduceLeDiff, Nat.reduceAdd, Bool.not_true, Bool.not_false, T_ok, x_kMt, x_sMt, x_mtN, x_mtC, x_sWh, true_or, true_and, and_true, if_true, if_false, ixa, hbb]
              cases q : btw pb (-1000) 1000 with
              | true => simp only [bind_ok, bind_ex, outE_ok, outE_ex, retF_nx, retF_rt, retF_xc, x_optR, x_eV, x_eC, x_kB, x_eB, x_eU, x_eF, x_kM, x_eM, x_ift, x_iff, x_eIf, x_kTup, x_kLst, x_eTup, x_eLst, x_aN, x_kCc, x_kC, x_aC, x_tV, x_kCn, x_kCm, x_tCm, x_okB, x_tA, x_tO, x_kN, x_tN, x_tCh, x_kCj, x_kCi, x_kCh, x_eCh, x_kNb, x_kAn, x_kOr, x_kNo, x_eAnd, x_eOr, x_eNot, x_kCl, x_eCall, x_kS2, x_kS1, x_eSl, x_oN, x_asO, x_oS, x_mLoc, x_kML, x_eML, x_kM0, x_kMl0, x_eML0, x_truB, x_truI, x_asB, x_cnx, x_crt, x_cbk, x_cct, x_cxc, x_sSeq, x_sNil, x_sBrk, x_sCnt, x_kEx, x_kSet, x_sEx, x_sSet, x_okO, x_putsN, x_putsC, x_kPar, x_sPar, x_kRet, x_sRet, x_sRetN, x_sIf, x_kSb3, x_kSb2, x_kSb1, x_sSub, x_kAsg, x_sAsg, x_pnm, x_ptp, x_kFor, x_sFor, x_itT, x_iR1, x_kR2, x_iR2, x_iE, x_tY, x_wN, x_wC, List.getElem?_cons_zero, List.getElem?_cons_succ, List.set_cons_zero, List.set_cons_succ, List.append_nil, List.nil_append, List.cons_append, List.length_cons, List.length_nil, Nat.reduceLeDiff, Nat.reduceAdd, Bool.not_true, Bool.not_false, T_ok, x_kMt, x_sMt, x_mtN, x_mtC, x_sWh, true_or, true_and, and_true, if_true, if_false, if_true]; exact ⟨nofun, fun ks e => by cases e; exact ⟨[], rfl, fun _ => ths_nil⟩⟩
              | false => simp only [bind_ok, bind_ex, outE_ok, outE_ex, retF_nx, retF_rt, retF_xc, x_optR, x_eV, x_eC, x_kB, x_eB, x_eU, x_eF, x_kM, x_eM, x_ift, x_iff, x_eIf, x_kTup, x_kLst, x_eTup, x_eLst, x_aN, x_kCc, x_kC, x_aC, x_tV, x_kCn, x_kCm, x_tCm, x_okB, x_tA, x_tO, x_kN, x_tN, x_tCh, x_kCj, x_kCi, x_kCh, x_eCh, x_kNb, x_kAn, x_kOr, x_kNo, x_eAnd, x_eOr, x_eNot, x_kCl, x_eCall, x_kS2, x_kS1, x_eSl, x_oN, x_asO, x_oS, x_mLoc, x_kML, x_eML, x_kM0, x_kMl0, x_eML0, x_truB, x_truI, x_asB, x_cnx, x_crt, x_cbk, x_cct, x_cxc, x_sSeq, x_sNil, x_sBrk, x_sCnt, x_kEx, x_kSet, x_sEx, x_sSet, x_okO, x_putsN, x_putsC, x_kPar, x_sPar, x_kRet, x_sRet, x_sRetN, x_sIf, x_kSb3, x_kSb2, x_kSb1, x_sSub, x_kAsg, x_sAsg, x_pnm, x_ptp, x_kFor, x_sFor, x_itT, x_iR1, x_kR2, x_iR2, x_iE, x_tY, x_wN, x_wC, List.getElem?_cons_zero, List.getElem?_cons_succ, List.set_cons_zero, List.set_cons_succ, List.append_nil, List.nil_append, List.cons_append, List.length_cons, List.length_nil, Nat.reduceLeDiff, Nat.reduceAdd, Bool.not_true, Bool.not_false, T_ok, x_kMt, x_sMt, x_mtN, x_mtC, x_sWh, true_or, true_and, and_true, if_true, if_false, Bool.false_eq_true, if_false]; exact ⟨fun _ => trivial, nofun⟩
            | [], [], _, _ =>
              have hx : decide (n = 1) = false := by subst hn; rfl
              simp only [hx, bind_ok, bind_ex, outE_ok, outE_ex, retF_nx, retF_rt, retF_xc, x_optR, x_eV, x_eC, x_kB, x_eB, x_eU, x_eF, x_kM, x_eM, x_ift, x_iff, x_eIf, x_kTup, x_kLst, x_eTup, x_eLst, x_aN, x_kCc, x_kC, x_aC, x_tV, x_kCn, x_kCm, x_tCm, x_okB, x_tA, x_tO, x_kN, x_tN, x_tCh, x_kCj, x_kCi, x_kCh, x_eCh, x_kNb, x_kAn, x_kOr, x_kNo, x_eAnd, x_eOr, x_eNot, x_kCl, x_eCall, x_kS2, x_kS1, x_eSl, x_oN, x_asO, x_oS, x_mLoc, x_kML, x_eML, x_kM0, x_kMl0, x_eML0, x_truB, x_truI, x_asB, x_cnx, x_crt, x_cbk, x_cct, x_cxc, x_sSeq, x_sNil, x_sBrk, x_sCnt, x_kEx, x_kSet, x_sEx, x_sSet, x_okO, x_putsN, x_putsC, x_kPar, x_sPar, x_kRet, x_sRet, x_sRetN, x_sIf, x_kSb3, x_kSb2, x_kSb1, x_sSub, x_kAsg, x_sAsg, x_pnm, x_ptp, x_kFor, x_sFor, x_itT, x_iR1, x_kR2, x_iR2, x_iE, x_tY, x_wN, x_wC, List.getElem?_cons_zero, List.getElem?_cons_succ, List.set_cons_zero, List.set_cons_succ, List.append_nil, List.nil_append, List.cons_append, List.length_cons, List.length_nil, Nat.reduceLeDiff, Nat.reduceAdd, Bool.not_true, Bool.not_false, T_ok, x_kMt, x_sMt, x_mtN, x_mtC, x_sWh, true_or, true_and, and_true, if_true, if_false]
              exact ⟨fun _ => trivial, nofun⟩
            | b :: c :: r, pb :: pc :: pr, _, _ =>
              have hx : decide (n = 1) = false := by subst hn; simp; omega
              simp only [hx, bind_ok, bind_ex, outE_ok, outE_ex, retF_nx, retF_rt, retF_xc, x_optR, x_eV, x_eC, x_kB, x_eB, x_eU, x_eF, x_kM, x_eM, x_ift, x_iff, x_eIf, x_kTup, x_kLst, x_eTup, x_eLst, x_aN, x_kCc, x_kC, x_aC, x_tV, x_kCn, x_kCm, x_tCm, x_okB, x_tA, x_tO, x_kN, x_tN, x_tCh, x_kCj, x_kCi, x_kCh, x_eCh, x_kNb, x_kAn, x_kOr, x_kNo, x_eAnd, x_eOr, x_eNot, x_kCl, x_eCall, x_kS2, x_kS1, x_eSl, x_oN, x_asO, x_oS, x_mLoc, x_kML, x_eML, x_kM0, x_kMl0, x_eML0, x_truB, x_truI, x_asB, x_cnx, x_crt, x_cbk, x_cct, x_cxc, x_sSeq, x_sNil, x_sBrk, x_sCnt, x_kEx, x_kSet, x_sEx, x_sSet, x_okO, x_putsN, x_putsC, x_kPar, x_sPar, x_kRet, x_sRet, x_sRetN, x_sIf, x_kSb3, x_kSb2, x_kSb1, x_sSub, x_kAsg, x_sAsg, x_pnm, x_ptp, x_kFor, x_sFor, x_itT, x_iR1, x_kR2, x_iR2, x_iE, x_tY, x_wN, x_wC, List.getElem?_cons_zero, List.getElem?_cons_succ, List.set_cons_zero, List.set_cons_succ, List.append_nil, List.nil_append, List.cons_append, List.length_cons, List.length_nil, Nat.reduceLeDiff, Nat.reduceAdd, Bool.not_true, Bool.not_false, T_ok, x_kMt, x_sMt, x_mtN, x_mtC, x_sWh, true_or, true_and, and_true, if_true, if_false]
              refine ⟨fun _ => trivial, fun ks e => ?_⟩
              cases pr with
              | nil =>
                have e3 : partsP (.tuple [.str "number", pb, pc]) = none := rfl
                rw [e3] at e; cases e
              | cons _ _ => simp [partsP] at e
          · by_cases v3 : w = "not"
            · subst v3
              have l0 : ∀ M, dEq (.str "not") (.str "var") M = .ok (.bl false) M := fun _ => rfl
              have l1 : ∀ M, dEq (.str "not") (.str "number") M = .ok (.bl false) M := fun _ => rfl
              have l2 : ∀ M, dEq (.str "not") (.str "not") M = .ok (.bl true) M := fun _ => rfl
              simp only [L_law_parts, bind_ok, bind_ex, outE_ok, outE_ex, retF_nx, retF_rt, retF_xc, x_optR, x_eV, x_eC, x_kB, x_eB, x_eU, x_eF, x_kM, x_eM, x_ift, x_iff, x_eIf, x_kTup, x_kLst, x_eTup, x_eLst, x_aN, x_kCc, x_kC, x_aC, x_tV, x_kCn, x_kCm, x_tCm, x_okB, x_tA, x_tO, x_kN, x_tN, x_tCh, x_kCj, x_kCi, x_kCh, x_eCh, x_kNb, x_kAn, x_kOr, x_kNo, x_eAnd, x_eOr, x_eNot, x_kCl, x_eCall, x_kS2, x_kS1, x_eSl, x_oN, x_asO, x_oS, x_mLoc, x_kML, x_eML, x_kM0, x_kMl0, x_eML0, x_truB, x_truI, x_asB, x_cnx, x_crt, x_cbk, x_cct, x_cxc, x_sSeq, x_sNil, x_sBrk, x_sCnt, x_kEx, x_kSet, x_sEx, x_sSet, x_okO, x_putsN, x_putsC, x_kPar, x_sPar, x_kRet, x_sRet, x_sRetN, x_sIf, x_kSb3, x_kSb2, x_kSb1, x_sSub, x_kAsg, x_sAsg, x_pnm, x_ptp, x_kFor, x_sFor, x_itT, x_iR1, x_kR2, x_iR2, x_iE, x_tY, x_wN, x_wC, List.getElem?_cons_zero, List.getElem?_cons_succ, List.set_cons_zero, List.set_cons_succ, List.append_nil, List.nil_append, List.cons_append, List.length_cons, List.length_nil, Nat.reduceLeDiff, Nat.reduceAdd, Bool.not_true, Bool.not_false, T_ok, x_kMt, x_sMt, x_mtN, x_mtC, x_sWh, true_or, true_and, and_true, if_true, if_false, h1, h0, ixa, h2, sl_tl, l0, l1, l2, hl3, eq_i]
              match rest, prest, tsr, hlen with
              | [b], [pb], ts, _ =>
                obtain ⟨_, _, e, tb, _⟩ := ts.uncons
                cases e
                have e1 : partsP (.tuple [.str "not", pb]) = some [pb] := rfl
                rw [e1]
                have hx : decide (n = 1) = true := by subst hn; rfl
                simp only [hx, bind_ok, bind_ex, outE_ok, outE_ex, retF_nx, retF_rt, retF_xc, x_optR, x_eV, x_eC, x_kB, x_eB, x_eU, x_eF, x_kM, x_eM, x_ift, x_iff, x_eIf, x_kTup, x_kLst, x_eTup, x_eLst, x_aN, x_kCc, x_kC, x_aC, x_tV, x_kCn, x_kCm, x_tCm, x_okB, x_tA, x_tO, x_kN, x_tN, x_tCh, x_kCj, x_kCi, x_kCh, x_eCh, x_kNb, x_kAn, x_kOr, x_kNo, x_eAnd, x_eOr, x_eNot, x_kCl, x_eCall, x_kS2, x_kS1, x_eSl, x_oN, x_asO, x_oS, x_mLoc, x_kML, x_eML, x_kM0, x_kMl0, x_eML0, x_truB, x_truI, x_asB, x_cnx, x_crt, x_cbk, x_cct, x_cxc, x_sSeq, x_sNil, x_sBrk, x_sCnt, x_kEx, x_kSet, x_sEx, x_sSet, x_okO, x_putsN, x_putsC, x_kPar, x_sPar, x_kRet, x_sRet, x_sRetN, x_sIf, x_kSb3, x_kSb2, x_kSb1, x_sSub, x_kAsg, x_sAsg, x_pnm, x_ptp, x_kFor, x_sFor, x_itT, x_iR1, x_kR2, x_iR2, x_iE, x_tY, x_wN, x_wC, List.getElem?_cons_zero, List.getElem?_cons_succ, List.set_cons_zero, List.set_cons_succ, List.append_nil, List.nil_append, List.cons_append, List.length_cons, List.length_nil, Nat.reduceLeDiff, Nat.reduceAdd, Bool.not_true, Bool.not_false, T_ok, x_kMt, x_sMt, x_mtN, x_mtC, x_sWh, true_or, true_and, and_true, if_true, if_false]
                exact ⟨nofun, fun ks e => by cases e; exact ⟨[b], rfl, fun t => ths_cons (th2 t).2 ths_nil⟩⟩
              | [], [], _, _ =>
                have hx : decide (n = 1) = false := by subst hn; rfl
                simp only [hx, bind_ok, bind_ex, outE_ok, outE_ex, retF_nx, retF_rt, retF_xc, x_optR, x_eV, x_eC, x_kB, x_eB, x_eU, x_eF, x_kM, x_eM, x_ift, x_iff, x_eIf, x_kTup, x_kLst, x_eTup, x_eLst, x_aN, x_kCc, x_kC, x_aC, x_tV, x_kCn, x_kCm, x_tCm, x_okB, x_tA, x_tO, x_kN, x_tN, x_tCh, x_kCj, x_kCi, x_kCh, x_eCh, x_kNb, x_kAn, x_kOr, x_kNo, x_eAnd, x_eOr, x_eNot, x_kCl, x_eCall, x_kS2, x_kS1, x_eSl, x_oN, x_asO, x_oS, x_mLoc, x_kML, x_eML, x_kM0, x_kMl0, x_eML0, x_truB, x_truI, x_asB, x_cnx, x_crt, x_cbk, x_cct, x_cxc, x_sSeq, x_sNil, x_sBrk, x_sCnt, x_kEx, x_kSet, x_sEx, x_sSet, x_okO, x_putsN, x_putsC, x_kPar, x_sPar, x_kRet, x_sRet, x_sRetN, x_sIf, x_kSb3, x_kSb2, x_kSb1, x_sSub, x_kAsg, x_sAsg, x_pnm, x_ptp, x_kFor, x_sFor, x_itT, x_iR1, x_kR2, x_iR2, x_iE, x_tY, x_wN, x_wC, List.getElem?_cons_zero, List.getElem?_cons_succ, List.set_cons_zero, List.set_cons_succ, List.append_nil, List.nil_append, List.cons_append, List.length_cons, List.length_nil, Nat.reduceLeDiff, Nat.reduceAdd, Bool.not_true, Bool.not_false, T_ok, x_kMt, x_sMt, x_mtN, x_mtC, x_sWh, true_or, true_and, and_true, if_true, if_false]
                exact ⟨fun _ => trivial, nofun⟩
              | b :: c :: r, pb :: pc :: pr, _, _ =>
                have hx : decide (n = 1) = false := by subst hn; simp; omega
                simp only [hx, bind_ok, bind_ex, outE_ok, outE_ex, retF_nx, retF_rt, retF_xc, x_optR, x_eV, x_eC, x_kB, x_eB, x_eU, x_eF, x_kM, x_eM, x_ift, x_iff, x_eIf, x_kTup, x_kLst, x_eTup, x_eLst, x_aN, x_kCc, x_kC, x_aC, x_tV, x_kCn, x_kCm, x_tCm, x_okB, x_tA, x_tO, x_kN, x_tN, x_tCh, x_kCj, x_kCi, x_kCh, x_eCh, x_kNb, x_kAn, x_kOr, x_kNo, x_eAnd, x_eOr, x_eNot, x_kCl, x_eCall, x_kS2, x_kS1, x_eSl, x_oN, x_asO, x_oS, x_mLoc, x_kML, x_eML, x_kM0, x_kMl0, x_eML0, x_truB, x_truI, x_asB, x_cnx, x_crt, x_cbk, x_cct, x_cxc, x_sSeq, x_sNil, x_sBrk, x_sCnt, x_kEx, x_kSet, x_sEx, x_sSet, x_okO, x_putsN, x_putsC, x_kPar, x_sPar, x_kRet, x_sRet, x_sRetN, x_sIf, x_kSb3, x_kSb2, x_kSb1, x_sSub, x_kAsg, x_sAsg, x_pnm, x_ptp, x_kFor, x_sFor, x_itT, x_iR1, x_kR2, x_iR2, x_iE, x_tY, x_wN, x_wC, List.getElem?_cons_zero, List.getElem?_cons_succ, List.set_cons_zero, List.set_cons_succ, List.append_nil, List.nil_append, List.cons_append, List.length_cons, List.length_nil, Nat.reduceLeDiff, Nat.reduceAdd, Bool.not_true, Bool.not_false, T_ok, x_kMt, x_sMt, x_mtN, x_mtC, x_sWh, true_or, true_and, and_true, if_true, if_false]
                refine ⟨fun _ => trivial, fun ks e => ?_⟩
                cases pr with
                | nil =>
                  have e3 : partsP (.tuple [.str "not", pb, pc]) = none := rfl
                  rw [e3] at e; cases e
                | cons _ _ => simp [partsP] at e
            · simp only [L_law_parts, bind_ok, bind_ex, outE_ok, outE_ex, retF_nx, retF_rt, retF_xc, x_optR, x_eV, x_eC, x_kB, x_eB, x_eU, x_eF, x_kM, x_eM, x_ift, x_iff, x_eIf, x_kTup, x_kLst, x_eTup, x_eLst, x_aN, x_kCc, x_kC, x_aC, x_tV, x_kCn, x_kCm, x_tCm, x_okB, x_tA, x_tO, x_kN, x_tN, x_tCh, x_kCj, x_kCi, x_kCh, x_eCh, x_kNb, x_kAn, x_kOr, x_kNo, x_eAnd, x_eOr, x_eNot, x_kCl, x_eCall, x_kS2, x_kS1, x_eSl, x_oN, x_asO, x_oS, x_mLoc, x_kML, x_eML, x_kM0, x_kMl0, x_eML0, x_truB, x_truI, x_asB, x_cnx, x_crt, x_cbk, x_cct, x_cxc, x_sSeq, x_sNil, x_sBrk, x_sCnt, x_kEx, x_kSet, x_sEx, x_sSet, x_okO, x_putsN, x_putsC, x_kPar, x_sPar, x_kRet, x_sRet, x_sRetN, x_sIf, x_kSb3, x_kSb2, x_kSb1, x_sSub, x_kAsg, x_sAsg, x_pnm, x_ptp, x_kFor, x_sFor, x_itT, x_iR1, x_kR2, x_iR2, x_iE, x_tY, x_wN, x_wC, List.getElem?_cons_zero, List.getElem?_cons_succ, List.set_cons_zero, List.set_cons_succ, List.append_nil, List.nil_append, List.cons_append, List.length_cons, List.length_nil, Nat.reduceLeDiff, Nat.reduceAdd, Bool.not_true, Bool.not_false, T_ok, x_kMt, x_sMt, x_mtN, x_mtC, x_sWh, true_or, true_and, and_true, if_true, if_false, h1, h0, ixa, h2, sl_tl, eq_s, v1, v2, v3, decide_false, hl3, ne_i, eq_i]
              match rest, prest, tsr, hlen with
              | [], [], _, _ =>
                have hx : decide (n = 2) = false := by subst hn; rfl
                simp only [hx, bind_ok, bind_ex, outE_ok, outE_ex, retF_nx, retF_rt, retF_xc, x_optR, x_eV, x_eC, x_kB, x_eB, x_eU, x_eF, x_kM, x_eM, x_ift, x_iff, x_eIf, x_kTup, x_kLst, x_eTup, x_eLst, x_aN, x_kCc, x_kC, x_aC, x_tV, x_kCn, x_kCm, x_tCm, x_okB, x_tA, x_tO, x_kN, x_tN, x_tCh, x_kCj, x_kCi, x_kCh, x_eCh, x_kNb, x_kAn, x_kOr, x_kNo, x_eAnd, x_eOr, x_eNot, x_kCl, x_eCall, x_kS2, x_kS1, x_eSl, x_oN, x_asO, x_oS, x_mLoc, x_kML, x_eML, x_kM0, x_kMl0, x_eML0, x_truB, x_truI, x_asB, x_cnx, x_crt, x_cbk, x_cct, x_cxc, x_sSeq, x_sNil, x_sBrk, x_sCnt, x_kEx, x_kSet, x_sEx, x_sSet, x_okO, x_putsN, x_putsC, x_kPar, x_sPar, x_kRet, x_sRet, x_sRetN, x_sIf, x_kSb3, x_kSb2, x_kSb1, x_sSub, x_kAsg, x_sAsg, x_pnm, x_ptp, x_kFor, x_sFor, x_itT, x_iR1, x_kR2, x_iR2, x_iE, x_tY, x_wN, x_wC, List.getElem?_cons_zero, List.getElem?_cons_succ, List.set_cons_zero, List.set_cons_succ, List.append_nil, List.nil_append, List.cons_append, List.length_cons, List.length_nil, Nat.reduceLeDiff, Nat.reduceAdd, Bool.not_true, Bool.not_false, T_ok, x_kMt, x_sMt, x_mtN, x_mtC, x_sWh, true_or, true_and, and_true, if_true, if_false]
                exact ⟨fun _ => trivial, nofun⟩
              | [b], [pb], _, _ =>
                have e1 : partsP (.tuple [.str w, pb]) = none := by simp only [partsP, v1, v2, v3, if_false]
                rw [e1]
                have hx : decide (n = 2) = false := by subst hn; rfl
                simp only [hx, bind_ok, bind_ex, outE_ok, outE_ex, retF_nx, retF_rt, retF_xc, x_optR, x_eV, x_eC, x_kB, x_eB, x_eU, x_eF, x_kM, x_eM, x_ift, x_iff, x_eIf, x_kTup, x_kLst, x_eTup, x_eLst, x_aN, x_kCc, x_kC, x_aC, x_tV, x_kCn, x_kCm, x_tCm, x_okB, x_tA, x_tO, x_kN, x_tN, x_tCh, x_kCj, x_kCi, x_kCh, x_eCh, x_kNb, x_kAn, x_kOr, x_kNo, x_eAnd, x_eOr, x_eNot, x_kCl, x_eCall, x_kS2, x_kS1, x_eSl, x_oN, x_asO, x_oS, x_mLoc, x_kML, x_eML, x_kM0, x_kMl0, x_eML0, x_truB, x_truI, x_asB, x_cnx, x_crt, x_cbk, x_cct, x_cxc, x_sSeq, x_sNil, x_sBrk, x_sCnt, x_kEx, x_kSet, x_sEx, x_sSet, x_okO, x_putsN, x_putsC, x_kPar, x_sPar, x_kRet, x_sRet, x_sRetN, x_sIf, x_kSb3, x_kSb2, x_kSb1, x_sSub, x_kAsg, x_sAsg, x_pnm, x_ptp, x_kFor, x_sFor, x_itT, x_iR1, x_kR2, x_iR2, x_iE, x_tY, x_wN, x_wC, List.getElem?_cons_zero, List.getElem?_cons_succ, List.set_cons_zero, List.set_cons_succ, List.append_nil, List.nil_append, List.cons_append, List.length_cons, List.length_nil, Nat.reduceLeDiff, Nat.reduceAdd, Bool.not_true, Bool.not_false, T_ok, x_kMt, x_sMt, x_mtN, x_mtC, x_sWh, true_or, true_and, and_true, if_true, if_false]
                exact ⟨fun _ => trivial, nofun⟩
              | b :: c :: g :: r, pb :: pc :: pg :: pr, _, _ =>
                have hx : decide (n = 2) = false := by subst hn; simp; omega
                simp only [hx, bind_ok, bind_ex, outE_ok, outE_ex, retF_nx, retF_rt, retF_xc, x_optR, x_eV, x_eC, x_kB, x_eB, x_eU, x_eF, x_kM, x_eM, x_ift, x_iff, x_eIf, x_kTup, x_kLst, x_eTup, x_eLst, x_aN, x_kCc, x_kC, x_aC, x_tV, x_kCn, x_kCm, x_tCm, x_okB, x_tA, x_tO, x_kN, x_tN, x_tCh, x_kCj, x_kCi, x_kCh, x_eCh, x_kNb, x_kAn, x_kOr, x_kNo, x_eAnd, x_eOr, x_eNot, x_kCl, x_eCall, x_kS2, x_kS1, x_eSl, x_oN, x_asO, x_oS, x_mLoc, x_kML, x_eML, x_kM0, x_kMl0, x_eML0, x_truB, x_truI, x_asB, x_cnx, x_crt, x_cbk, x_cct, x_cxc, x_sSeq, x_sNil, x_sBrk, x_sCnt, x_kEx, x_kSet, x_sEx, x_sSet, x_okO, x_putsN, x_putsC, x_kPar, x_sPar, x_kRet, x_sRet, x_sRetN, x_sIf, x_kSb3, x_kSb2, x_kSb1, x_sSub, x_kAsg, x_sAsg, x_pnm, x_ptp, x_kFor, x_sFor, x_itT, x_iR1, x_kR2, x_iR2, x_iE, x_tY, x_wN, x_wC, List.getElem?_cons_zero, List.getElem?_cons_succ, List.set_cons_zero, List.set_cons_succ, List.append_nil, List.nil_append, List.cons_append, List.length_cons, List.length_nil, Nat.reduceLeDiff, Nat.reduceAdd, Bool.not_true, Bool.not_false, T_ok, x_kMt, x_sMt, x_mtN, x_mtC, x_sWh, true_or, true_and, and_true, if_true, if_false]
                exact ⟨fun _ => trivial, nofun⟩
              | [b, c], [pb, pc], ts, _ =>
                obtain ⟨_, _, e, tb, ts⟩ := ts.uncons
                cases e
                obtain ⟨_, _, e, tc, ts⟩ := ts.uncons
                cases e
                have hx : decide (n = 2) = true := by subst hn; rfl
                simp only [hx, bind_ok, bind_ex, outE_ok, outE_ex, retF_nx, retF_rt, retF_xc, x_optR, x_eV, x_eC, x_kB, x_eB, x_eU, x_eF, x_kM, x_eM, x_ift, x_iff, x_eIf, x_kTup, x_kLst, x_eTup, x_eLst, x_aN, x_kCc, x_kC, x_aC, x_tV, x_kCn, x_kCm, x_tCm, x_okB, x_tA, x_tO, x_kN, x_tN, x_tCh, x_kCj, x_kCi, x_kCh, x_eCh, x_kNb, x_kAn, x_kOr, x_kNo, x_eAnd, x_eOr, x_eNot, x_kCl, x_eCall, x_kS2, x_kS1, x_eSl, x_oN, x_asO, x_oS, x_mLoc, x_kML, x_eML, x_kM0, x_kMl0, x_eML0, x_truB, x_truI, x_asB, x_cnx, x_crt, x_cbk, x_cct, x_cxc, x_sSeq, x_sNil, x_sBrk, x_sCnt, x_kEx, x_kSet, x_sEx, x_sSet, x_okO, x_putsN, x_putsC, x_kPar, x_sPar, x_kRet, x_sRet, x_sRetN, x_sIf, x_kSb3, x_kSb2, x_kSb1, x_sSub, x_kAsg, x_sAsg, x_pnm, x_ptp, x_kFor, x_sFor, x_itT, x_iR1, x_kR2, x_iR2, x_iE, x_tY, x_wN, x_wC, List.getElem?_cons_zero, List.getElem?_cons_succ, List.set_cons_zero, List.set_cons_succ, List.append_nil, List.nil_append, List.cons_append, List.length_cons, List.length_nil, Nat.reduceLeDiff, Nat.reduceAdd, Bool.not_true, Bool.not_false, T_ok, x_kMt, x_sMt, x_mtN, x_mtC, x_sWh, true_or, true_and, and_true, if_true, if_false]
                by_cases u1 : w = "and" ∨ w = "or" ∨ w = "xor" ∨ w = "plus" ∨ w = "minus"
                · obtain ⟨l0, ln, l1⟩ : (∀ M, dEq (.str w) (.str "shift") M = .ok (.bl false) M) ∧ (∀ M, dEq (.str w) (.str "times") M = .ok (.bl false) M) ∧ ∀ M, dIn false (.str w) k_PAIRED M = .ok (.bl true) M := by
                    rcases u1 with rfl | rfl | rfl | rfl | rfl <;> exact ⟨fun _ => rfl, fun _ => rfl, fun _ => rfl⟩
                  have e1 : partsP (.tuple [.str w, pb, pc]) = some [pb, pc] := by simp only [partsP, u1, if_true]
                  rw [e1]
                  simp only [bind_ok, bind_ex, outE_ok, outE_ex, retF_nx, retF_rt, retF_xc, x_optR, x_eV, x_eC, x_kB, x_eB, x_eU, x_eF, x_kM, x_eM, x_ift, x_iff, x_eIf, x_kTup, x_kLst, x_eTup, x_eLst, x_aN, x_kCc, x_kC, x_aC, x_tV, x_kCn, x_kCm, x_tCm, x_okB, x_tA, x_tO, x_kN, x_tN, x_tCh, x_kCj, x_kCi, x_kCh, x_eCh, x_kNb, x_kAn, x_kOr, x_kNo, x_eAnd, x_eOr, x_eNot, x_kCl, x_eCall, x_kS2, x_kS1, x_eSl, x_oN, x_asO, x_oS, x_mLoc, x_kML, x_eML, x_kM0, x_kMl0, x_eML0, x_truB, x_truI, x_asB, x_cnx, x_crt, x_cbk, x_cct, x_cxc, x_sSeq, x_sNil, x_sBrk, x_sCnt, x_kEx, x_kSet, x_sEx, x_sSet, x_okO, x_putsN, x_putsC, x_kPar, x_sPar, x_kRet, x_sRet, x_sRetN, x_sIf, x_kSb3, x_kSb2, x_kSb1, x_sSub, x_kAsg, x_sAsg, x_pnm, x_ptp, x_kFor, x_sFor, x_itT, x_iR1, x_kR2, x_iR2, x_iE, x_tY, x_wN, x_wC, List.getElem?_cons_zero, List.getElem?_cons_succ, List.set_cons_zero, List.set_cons_succ, List.append_nil, List.nil_append, List.cons_append, List.length_cons, List.length_nil, Nat.reduceLeDiff, Nat.reduceAdd, Bool.not_true, Bool.not_false, T_ok, x_kMt, x_sMt, x_mtN, x_mtC, x_sWh, true_or, true_and, and_true, if_true, if_false, l0, ln, l1]
                  exact ⟨nofun, fun ks e => by cases e; exact ⟨[b, c], rfl, fun t => ths_cons (th3 t).2.1 (ths_cons (th3 t).2.2 ths_nil)⟩⟩
                · have l1 : ∀ M, dIn false (.str w) k_PAIRED M = .ok (.bl false) M := fun _ => by
                    rw [in_str5]
                    simp only [not_or] at u1
                    obtain ⟨a1, a2, a3, a4, a5⟩ := u1
                    simp [Ne.symm a1, Ne.symm a2, Ne.symm a3, Ne.symm a4, Ne.symm a5]
                  by_cases u2 : w = "shift"
                  · subst u2
                    have hbc := hb (lo := 1) (hi := 4) tc
                    have l2 : ∀ M, dEq (.str "shift") (.str "shift") M = .ok (.bl true) M := fun _ => rfl
                    have e1 : partsP (.tuple [.str "shift", pb, pc]) = if btw pc 1 4 then some [pb] else none := rfl
                    rw [e1]
                    simp only [bind_ok, bind_ex, outE_ok, outE_ex, retF_nx, retF_rt, retF_xc, x_optR, x_eV, x_eC, x_kB, x_eB, x_eU, x_eF, x_kM, x_eM, x_ift, x_iff, x_eIf, x_kTup, x_kLst, x_eTup, x_eLst, x_aN, x_kCc, x_kC, x_aC, x_tV, x_kCn, x_kCm, x_tCm, x_okB, x_tA, x_tO, x_kN, x_tN, x_tCh, x_kCj, x_kCi, x_kCh, x_eCh, x_kNb, x_kAn, x_kOr, x_kNo, x_eAnd, x_eOr, x_eNot, x_kCl, x_eCall, x_kS2, x_kS1, x_eSl, x_oN, x_asO, x_oS, x_mLoc, x_kML, x_eML, x_kM0, x_kMl0, x_eML0, x_truB, x_truI, x_asB, x_cnx, x_crt, x_cbk, x_cct, x_cxc, x_sSeq, x_sNil, x_sBrk, x_sCnt, x_kEx, x_kSet, x_sEx, x_sSet, x_okO, x_putsN, x_putsC, x_kPar, x_sPar, x_kRet, x_sRet, x_sRetN, x_sIf, x_kSb3, x_kSb2, x_kSb1, x_sSub, x_kAsg, x_sAsg, x_pnm, x_ptp, x_kFor, x_sFor, x_itT, x_iR1, x_kR2, x_iR2, x_iE, x_tY, x_wN, x_wC, List.getElem?_cons_zero, List.getElem?_cons_succ, List.set_cons_zero, List.set_cons_succ, List.append_nil, List.nil_append, List.cons_append, List.length_cons, List.length_nil, Nat.reduceLeDiff, Nat.reduceAdd, Bool.not_true, Bool.not_false, T_ok, x_kMt, x_sMt, x_mtN, x_mtC, x_sWh, true_or, true_and, and_true, if_true, if_false, l2, ixb, hbc]
                    cases q : btw pc 1 4 with
                    | true =>
                      simp only [bind_ok, bind_ex, outE_ok, outE_ex, retF_nx, retF_rt, retF_xc, x_optR, x_eV, x_eC, x_kB, x_eB, x_eU, x_eF, x_kM, x_eM, x_ift, x_iff, x_eIf, x_kTup, x_kLst, x_eTup, x_eLst, x_aN, x_kCc, x_kC, x_aC, x_tV, x_kCn, x_kCm, x_tCm, x_okB, x_tA, x_tO, x_kN, x_tN, x_tCh, x_kCj, x_kCi, x_kCh, x_eCh, x_kNb, x_kAn, x_kOr, x_kNo, x_eAnd, x_eOr, x_eNot, x_kCl, x_eCall, x_kS2, x_kS1, x_eSl, x_oN, x_asO, x_oS, x_mLoc, x_kML, x_eML, x_kM0, x_kMl0, x_eML0, x_truB, x_truI, x_asB, x_cnx, x_crt, x_cbk, x_cct, x_cxc, x_sSeq, x_sNil, x_sBrk, x_sCnt, x_kEx, x_kSet, x_sEx, x_sSet, x_okO, x_putsN, x_putsC, x_kPar, x_sPar, x_kRet, x_sRet, x_sRetN, x_sIf, x_kSb3, x_kSb2, x_kSb1, x_sSub, x_kAsg, x_sAsg, x_pnm, x_ptp, x_kFor, x_sFor, x_itT, x_iR1, x_kR2, x_iR2, x_iE, x_tY, x_wN, x_wC, List.getElem?_cons_zero, List.getElem?_cons_succ, List.set_cons_zero, List.set_cons_succ, List.append_nil, List.nil_append, List.cons_append, List.length_cons, List.length_nil, Nat.reduceLeDiff, Nat.reduceAdd, Bool.not_true, Bool.not_false, T_ok, x_kMt, x_sMt, x_mtN, x_mtC, x_sWh, true_or, true_and, and_true, if_true, if_false, slh, if_true]
                      exact ⟨nofun, fun ks e => by cases e; exact ⟨[b], rfl, fun t => ths_cons (th3 t).2.1 ths_nil⟩⟩
                    | false =>
                      simp only [bind_ok, bind_ex, outE_ok, outE_ex, retF_nx, retF_rt, retF_xc, x_optR, x_eV, x_eC, x_kB, x_eB, x_eU, x_eF, x_kM, x_eM, x_ift, x_iff, x_eIf, x_kTup, x_kLst, x_eTup, x_eLst, x_aN, x_kCc, x_kC, x_aC, x_tV, x_kCn, x_kCm, x_tCm, x_okB, x_tA, x_tO, x_kN, x_tN, x_tCh, x_kCj, x_kCi, x_kCh, x_eCh, x_kNb, x_kAn, x_kOr, x_kNo, x_eAnd, x_eOr, x_eNot, x_kCl, x_eCall, x_kS2, x_kS1, x_eSl, x_oN, x_asO, x_oS, x_mLoc, x_kML, x_eML, x_kM0, x_kMl0, x_eML0, x_truB, x_truI, x_asB, x_cnx, x_crt, x_cbk, x_cct, x_cxc, x_sSeq, x_sNil, x_sBrk, x_sCnt, x_kEx, x_kSet, x_sEx, x_sSet, x_okO, x_putsN, x_putsC, x_kPar, x_sPar, x_kRet, x_sRet, x_sRetN, x_sIf, x_kSb3, x_kSb2, x_kSb1, x_sSub, x_kAsg, x_sAsg, x_pnm, x_ptp, x_kFor, x_sFor, x_itT, x_iR1, x_kR2, x_iR2, x_iE, x_tY, x_wN, x_wC, List.getElem?_cons_zero, List.getElem?_cons_succ, List.set_cons_zero, List.set_cons_succ, List.append_nil, List.nil_append, List.cons_append, List.length_cons, List.length_nil, Nat.reduceLeDiff, Nat.reduceAdd, Bool.not_true, Bool.not_false, T_ok, x_kMt, x_sMt, x_mtN, x_mtC, x_sWh, true_or, true_and, and_true, if_true, if_false, Bool.false_eq_true, if_false]
                      exact ⟨fun _ => trivial, nofun⟩
                  · by_cases u3 : w = "times"
                    · subst u3
                      have hbc := hb (lo := -9) (hi := 9) tb
                      have l2 : ∀ M, dEq (.str "times") (.str "times") M = .ok (.bl true) M := fun _ => rfl
                      have l3 : ∀ M, dEq (.str "times") (.str "shift") M = .ok (.bl false) M := fun _ => rfl
                      have e1 : partsP (.tuple [.str "times", pb, pc]) = if btw pb (-9) 9 then some [pc] else none := rfl
                      rw [e1]
                      simp only [bind_ok, bind_ex, outE_ok, outE_ex, retF_nx, retF_rt, retF_xc, x_optR, x_eV, x_eC, x_kB, x_eB, x_eU, x_eF, x_kM, x_eM, x_ift, x_iff, x_eIf, x_kTup, x_kLst, x_eTup, x_eLst, x_aN, x_kCc, x_kC, x_aC, x_tV, x_kCn, x_kCm, x_tCm, x_okB, x_tA, x_tO, x_kN, x_tN, x_tCh, x_kCj, x_kCi, x_kCh, x_eCh, x_kNb, x_kAn, x_kOr, x_kNo, x_eAnd, x_eOr, x_eNot, x_kCl, x_eCall, x_kS2, x_kS1, x_eSl, x_oN, x_asO, x_oS, x_mLoc, x_kML, x_eML, x_kM0, x_kMl0, x_eML0, x_truB, x_truI, x_asB, x_cnx, x_crt, x_cbk, x_cct, x_cxc, x_sSeq, x_sNil, x_sBrk, x_sCnt, x_kEx, x_kSet, x_sEx, x_sSet, x_okO, x_putsN, x_putsC, x_kPar, x_sPar, x_kRet, x_sRet, x_sRetN, x_sIf, x_kSb3, x_kSb2, x_kSb1, x_sSub, x_kAsg, x_sAsg, x_pnm, x_ptp, x_kFor, x_sFor, x_itT, x_iR1, x_kR2, x_iR2, x_iE, x_tY, x_wN, x_wC, List.getElem?_cons_zero, List.getElem?_cons_succ, List.set_cons_zero, List.set_cons_succ, List.append_nil, List.nil_append, List.cons_append, List.length_cons, List.length_nil, Nat.reduceLeDiff, Nat.reduceAdd, Bool.not_true, Bool.not_false, T_ok, x_kMt, x_sMt, x_mtN, x_mtC, x_sWh, true_or, true_and, and_true, if_true, if_false, l2, l3, ixa, dNeg, hbc]
                      cases q : btw pb (-9) 9 with
                      | true =>
                        simp only [bind_ok, bind_ex, outE_ok, outE_ex, retF_nx, retF_rt, retF_xc, x_optR, x_eV, x_eC, x_kB, x_eB, x_eU, x_eF, x_kM, x_eM, x_ift, x_iff, x_eIf, x_kTup, x_kLst, x_eTup, x_eLst, x_aN, x_kCc, x_kC, x_aC, x_tV, x_kCn, x_kCm, x_tCm, x_okB, x_tA, x_tO, x_kN, x_tN, x_tCh, x_kCj, x_kCi, x_kCh, x_eCh, x_kNb, x_kAn, x_kOr, x_kNo, x_eAnd, x_eOr, x_eNot, x_kCl, x_eCall, x_kS2, x_kS1, x_eSl, x_oN, x_asO, x_oS, x_mLoc, x_kML, x_eML, x_kM0, x_kMl0, x_eML0, x_truB, x_truI, x_asB, x_cnx, x_crt, x_cbk, x_cct, x_cxc, x_sSeq, x_sNil, x_sBrk, x_sCnt, x_kEx, x_kSet, x_sEx, x_sSet, x_okO, x_putsN, x_putsC, x_kPar, x_sPar, x_kRet, x_sRet, x_sRetN, x_sIf, x_kSb3, x_kSb2, x_kSb1, x_sSub, x_kAsg, x_sAsg, x_pnm, x_ptp, x_kFor, x_sFor, x_itT, x_iR1, x_kR2, x_iR2, x_iE, x_tY, x_wN, x_wC, List.getElem?_cons_zero, List.getElem?_cons_succ, List.set_cons_zero, List.set_cons_succ, List.append_nil, List.nil_append, List.cons_append, List.length_cons, List.length_nil, Nat.reduceLeDiff, Nat.reduceAdd, Bool.not_true, Bool.not_false, T_ok, x_kMt, x_sMt, x_mtN, x_mtC, x_sWh, true_or, true_and, and_true, if_true, if_false, sl2, if_true]
                        exact ⟨nofun, fun ks e => by cases e; exact ⟨[c], rfl, fun t => ths_cons (th3 t).2.2 ths_nil⟩⟩
                      | false =>
                        simp only [bind_ok, bind_ex, outE_ok, outE_ex, retF_nx, retF_rt, retF_xc, x_optR, x_eV, x_eC, x_kB, x_eB, x_eU, x_eF, x_kM, x_eM, x_ift, x_iff, x_eIf, x_kTup, x_kLst, x_eTup, x_eLst, x_aN, x_kCc, x_kC, x_aC, x_tV, x_kCn, x_kCm, x_tCm, x_okB, x_tA, x_tO, x_kN, x_tN, x_tCh, x_kCj, x_kCi, x_kCh, x_eCh, x_kNb, x_kAn, x_kOr, x_kNo, x_eAnd, x_eOr, x_eNot, x_kCl, x_eCall, x_kS2, x_kS1, x_eSl, x_oN, x_asO, x_oS, x_mLoc, x_kML, x_eML, x_kM0, x_kMl0, x_eML0, x_truB, x_truI, x_asB, x_cnx, x_crt, x_cbk, x_cct, x_cxc, x_sSeq, x_sNil, x_sBrk, x_sCnt, x_kEx, x_kSet, x_sEx, x_sSet, x_okO, x_putsN, x_putsC, x_kPar, x_sPar, x_kRet, x_sRet, x_sRetN, x_sIf, x_kSb3, x_kSb2, x_kSb1, x_sSub, x_kAsg, x_sAsg, x_pnm, x_ptp, x_kFor, x_sFor, x_itT, x_iR1, x_kR2, x_iR2, x_iE, x_tY, x_wN, x_wC, List.getElem?_cons_zero, List.getElem?_cons_succ, List.set_cons_zero, List.set_cons_succ, List.append_nil, List.nil_append, List.cons_append, List.length_cons, List.length_nil, Nat.reduceLeDiff, Nat.reduceAdd, Bool.not_true, Bool.not_false, T_ok, x_kMt, x_sMt, x_mtN, x_mtC, x_sWh, true_or, true_and, and_true, if_true, if_false, Bool.false_eq_true, if_false]
                        exact ⟨fun _ => trivial, nofun⟩
                    · have e1 : partsP (.tuple [.str w, pb, pc]) = none := by simp only [partsP, u1, u2, u3, if_false]
                      rw [e1]
                      simp only [eq_s, u2, u3, decide_false, bind_ok, bind_ex, outE_ok, outE_ex, retF_nx, retF_rt, retF_xc, x_optR, x_eV, x_eC, x_kB, x_eB, x_eU, x_eF, x_kM, x_eM, x_ift, x_iff, x_eIf, x_kTup, x_kLst, x_eTup, x_eLst, x_aN, x_kCc, x_kC, x_aC, x_tV, x_kCn, x_kCm, x_tCm, x_okB, x_tA, x_tO, x_kN, x_tN, x_tCh, x_kCj, x_kCi, x_kCh, x_eCh, x_kNb, x_kAn, x_kOr, x_kNo, x_eAnd, x_eOr, x_eNot, x_kCl, x_eCall, x_kS2, x_kS1, x_eSl, x_oN, x_asO, x_oS, x_mLoc, x_kML, x_eML, x_kM0, x_kMl0, x_eML0, x_truB, x_truI, x_asB, x_cnx, x_crt, x_cbk, x_cct, x_cxc, x_sSeq, x_sNil, x_sBrk, x_sCnt, x_kEx, x_kSet, x_sEx, x_sSet, x_okO, x_putsN, x_putsC, x_kPar, x_sPar, x_kRet, x_sRet, x_sRetN, x_sIf, x_kSb3, x_kSb2, x_kSb1, x_sSub, x_kAsg, x_sAsg, x_pnm, x_ptp, x_kFor, x_sFor, x_itT, x_iR1, x_kR2, x_iR2, x_iE, x_tY, x_wN, x_wC, List.getElem?_cons_zero, List.getElem?_cons_succ, List.set_cons_zero, List.set_cons_succ, List.append_nil, List.nil_append, List.cons_append, List.length_cons, List.length_nil, Nat.reduceLeDiff, Nat.reduceAdd, Bool.not_true, Bool.not_false, T_ok, x_kMt, x_sMt, x_mtN, x_mtC, x_sWh, true_or, true_and, and_true, if_true, if_false, l1]
                      exact ⟨fun _ => trivial, nofun⟩
      | _ =>
        simp only [pStr] at h2
        exact ⟨fun _ => by simp only [L_law_parts, bind_ok, bind_ex, outE_ok, outE_ex, retF_nx, retF_rt, retF_xc, x_optR, x_eV, x_eC, x_kB, x_eB, x_eU, x_eF, x_kM, x_eM, x_ift, x_iff, x_eIf, x_kTup, x_kLst, x_eTup, x_eLst, x_aN, x_kCc, x_kC, x_aC, x_tV, x_kCn, x_kCm, x_tCm, x_okB, x_tA, x_tO, x_kN, x_tN, x_tCh, x_kCj, x_kCi, x_kCh, x_eCh, x_kNb, x_kAn, x_kOr, x_kNo, x_eAnd, x_eOr, x_eNot, x_kCl, x_eCall, x_kS2, x_kS1, x_eSl, x_oN, x_asO, x_oS, x_mLoc, x_kML, x_eML, x_kM0, x_kMl0, x_eML0, x_truB, x_truI, x_asB, x_cnx, x_crt, x_cbk, x_cct, x_cxc, x_sSeq, x_sNil, x_sBrk, x_sCnt, x_kEx, x_kSet, x_sEx, x_sSet, x_okO, x_putsN, x_putsC, x_kPar, x_sPar, x_kRet, x_sRet, x_sRetN, x_sIf, x_kSb3, x_kSb2, x_kSb1, x_sSub, x_kAsg, x_sAsg, x_pnm, x_ptp, x_kFor, x_sFor, x_itT, x_iR1, x_kR2, x_iR2, x_iE, x_tY, x_wN, x_wC, List.getElem?_cons_zero, List.getElem?_cons_succ, List.set_cons_zero, List.set_cons_succ, List.append_nil, List.nil_append, List.cons_append, List.length_cons, List.length_nil, Nat.reduceLeDiff, Nat.reduceAdd, Bool.not_true, Bool.not_false, T_ok, x_kMt, x_sMt, x_mtN, x_mtC, x_sWh, true_or, true_and, and_true, if_true, if_false, h1, h0, ixa, h2], fun ks e => by
          unfold partsP at e
          split at e <;> simp_all⟩
  | _ =>
    have h1 := isi_tup t
    have e0 : pTup p = false := by
      cases p <;> first | rfl | (obtain ⟨_, e, _⟩ := t.tuple_inv; cases e)
    rw [e0] at h1
    refine ⟨fun _ => by simp only [L_law_parts, bind_ok, bind_ex, outE_ok, outE_ex, retF_nx, retF_rt, retF_xc, x_optR, x_eV, x_eC, x_kB, x_eB, x_eU, x_eF, x_kM, x_eM, x_ift, x_iff, x_eIf, x_kTup, x_kLst, x_eTup, x_eLst, x_aN, x_kCc, x_kC, x_aC, x_tV, x_kCn, x_kCm, x_tCm, x_okB, x_tA, x_tO, x_kN, x_tN, x_tCh, x_kCj, x_kCi, x_kCh, x_eCh, x_kNb, x_kAn, x_kOr, x_kNo, x_eAnd, x_eOr, x_eNot, x_kCl, x_eCall, x_kS2, x_kS1, x_eSl, x_oN, x_asO, x_oS, x_mLoc, x_kML, x_eML, x_kM0, x_kMl0, x_eML0, x_truB, x_truI, x_asB, x_cnx, x_crt, x_cbk, x_cct, x_cxc, x_sSeq, x_sNil, x_sBrk, x_sCnt, x_kEx, x_kSet, x_sEx, x_sSet, x_okO, x_putsN, x_putsC, x_kPar, x_sPar, x_kRet, x_sRet, x_sRetN, x_sIf, x_kSb3, x_kSb2, x_kSb1, x_sSub, x_kAsg, x_sAsg, x_pnm, x_ptp, x_kFor, x_sFor, x_itT, x_iR1, x_kR2, x_iR2, x_iE, x_tY, x_wN, x_wC, List.getElem?_cons_zero, List.getElem?_cons_succ, List.set_cons_zero, List.set_cons_succ, List.append_nil, List.nil_append, List.cons_append, List.length_cons, List.length_nil, Nat.reduceLeDiff, Nat.reduceAdd, Bool.not_true, Bool.not_false, T_ok, x_kMt, x_sMt, x_mtN, x_mtC, x_sWh, true_or, true_and, and_true, if_true, if_false, h1], fun ks e => ?_⟩
    cases p <;> first | (simp [partsP] at e; done) | (simp [pTup] at e0)
def L_law_many (pf self : Fn) : LS :=
  (sSeq (sSet 1 (eCall pf [] (aC (eV 0) aN)))
  (sSeq (sIf (tCm dIsN (eV 1) (eC .non))
  (sRet (eC (.int 99)))
  sNil)
  (sRet (eB dAdd (eF bSum (aC (eLc (iE (eV 1)) (.nm 2) tY (eCall self [] (aC (eV 2) aN)) [2]) aN)) (eF bInt (aC (eB dNe (eV 1) (eTup aN)) aN))))))
def ManyT (f : Fn) (p : PyData) : Prop := ∀ {x : Nat → Bool} {j : Nat} {M : Mem} {d : D}, Th x j M d p → ∃ M', f [d] M = .ok (.int (manyP p : Nat)) M' ∧ Kp N0 M M'
theorem asIs_m : ∀ ns : List Int, asIs (ns.map D.int) = some ns
  | [] => rfl
  | n :: ns => by simp only [List.map_cons, asIs, asIs_m ns, Option.map_some]
theorem sum_at {M : Mem} {m : Nat} {ns : List Int} (h : M[m]? = some (.lst (ns.map D.int))) : bSum [.loc m] M = .ok (.int ns.sum) M := by
  simp only [bSum, locD, h, O.items, Option.bind_some, asIs_m]
theorem many_step {f pf self : Fn} (hp : IsPartsT pf) {p : PyData} (h : ∀ d M, f [d] M = retF (L_law_many pf self [some d, none, none] M)) (ih : ∀ ks, partsP p = some ks → ∀ q ∈ ks, ManyT self q) : ManyT f p := fun {x j M d} t => by
  rw [h]
  obtain ⟨hpn, hps⟩ := hp t
  have eqm := many_eq p
  cases q : partsP p with
  | none =>
    rw [q] at eqm
    have eqm : manyP p = 99 := eqm
    refine ⟨M, ?_, Kp.refl _⟩
    have hN : ∀ M, dIsN .non .non M = .ok (.bl true) M := fun _ => rfl
    simp only [L_law_many, bind_ok, bind_ex, outE_ok, outE_ex, retF_nx, retF_rt, retF_xc, x_optR, x_eV, x_eC, x_kB, x_eB, x_eU, x_eF, x_kM, x_eM, x_ift, x_iff, x_eIf, x_kTup, x_kLst, x_eTup, x_eLst, x_aN, x_kCc, x_kC, x_aC, x_tV, x_kCn, x_kCm, x_tCm, x_okB, x_tA, x_tO, x_kN, x_tN, x_tCh, x_kCj, x_kCi, x_kCh, x_eCh, x_kNb, x_kAn, x_kOr, x_kNo, x_eAnd, x_eOr, x_eNot, x_kCl, x_eCall, x_kS2, x_kS1, x_eSl, x_oN, x_asO, x_oS, x_mLoc, x_kML, x_eML, x_kM0, x_kMl0, x_eML0, x_truB, x_truI, x_asB, x_cnx, x_crt, x_cbk, x_cct, x_cxc, x_sSeq, x_sNil, x_sBrk, x_sCnt, x_kEx, x_kSet, x_sEx, x_sSet, x_okO, x_putsN, x_putsC, x_kPar, x_sPar, x_kRet, x_sRet, x_sRetN, x_sIf, x_kSb3, x_kSb2, x_kSb1, x_sSub, x_kAsg, x_sAsg, x_pnm, x_ptp, x_kFor, x_sFor, x_itT, x_iR1, x_kR2, x_iR2, x_iE, x_tY, x_wN, x_wC, List.getElem?_cons_zero, List.getElem?_cons_succ, List.set_cons_zero, List.set_cons_succ, List.append_nil, List.nil_append, List.cons_append, List.length_cons, List.length_nil, Nat.reduceLeDiff, Nat.reduceAdd, Bool.not_true, Bool.not_false, T_ok, x_kMt, x_sMt, x_mtN, x_mtC, x_sWh, true_or, true_and, and_true, if_true, if_false, hpn q, hN, eqm]
    rfl
  | some ks =>
    rw [q] at eqm
    have eqm : manyP p = manyS ks + if ks.isEmpty then 0 else 1 := eqm
    obtain ⟨es, e1, te⟩ := hps ks q
    obtain ⟨_, z2⟩ := parts_sz q
    have hlen := (te t).length
    have hN : ∀ M, dIsN (.tup es) .non M = .ok (.bl false) M := fun _ => rfl
    have hb : ∀ M, bInt [.bl (!es.isEmpty)] M = .ok (.int ((if ks.isEmpty then 0 else 1 : Nat) : Int)) M := fun M => by
      simp only [bInt, ← isE hlen]
      cases ks.isEmpty <;> rfl
    obtain ⟨acc, M', e2, g1, g2, g3, g4⟩ := lc_gen (S := N0) (it := iE (eV 1)) (v := .tup es) (ds := es) (j := 2) (te := eCall self [] (aC (eV 2) aN)) (vs := [2]) (L := [some d, some (.tup es), none]) (M := M) (M0 := M)
      (fun i acc M' => acc = ((ks.take i).map fun q => D.int (manyP q : Nat))) rfl Iw.tup rfl (Nat.le_trans (show es.length ≤ 2 by omega) (by decide))
      (fun i acc M' d' hd hl hacc kk hcm => by
        obtain ⟨pq, hq, tq⟩ := (te t).get hd
        obtain ⟨M2, e3, k3⟩ := ih ks q pq (List.mem_of_getElem? hq) (tq.kp0 kk)
        refine ⟨.int (manyP pq : Nat), M2, ?_, kk.trans k3, k3.at hcm id, ?_⟩
        · simp only [bind_ok, bind_ex, outE_ok, outE_ex, retF_nx, retF_rt, retF_xc, x_optR, x_eV, x_eC, x_kB, x_eB, x_eU, x_eF, x_kM, x_eM, x_ift, x_iff, x_eIf, x_kTup, x_kLst, x_eTup, x_eLst, x_aN, x_kCc, x_kC, x_aC, x_tV, x_kCn, x_kCm, x_tCm, x_okB, x_tA, x_tO, x_kN, x_tN, x_tCh, x_kCj, x_kCi, x_kCh, x_eCh, x_kNb, x_kAn, x_kOr, x_kNo, x_eAnd, x_eOr, x_eNot, x_kCl, x_eCall, x_kS2, x_kS1, x_eSl, x_oN, x_asO, x_oS, x_mLoc, x_kML, x_eML, x_kM0, x_kMl0, x_eML0, x_truB, x_truI, x_asB, x_cnx, x_crt, x_cbk, x_cct, x_cxc, x_sSeq, x_sNil, x_sBrk, x_sCnt, x_kEx, x_kSet, x_sEx, x_sSet, x_okO, x_putsN, x_putsC, x_kPar, x_sPar, x_kRet, x_sRet, x_sRetN, x_sIf, x_kSb3, x_kSb2, x_kSb1, x_sSub, x_kAsg, x_sAsg, x_pnm, x_ptp, x_kFor, x_sFor, x_itT, x_iR1, x_kR2, x_iR2, x_iE, x_tY, x_wN, x_wC, List.getElem?_cons_zero, List.getElem?_cons_succ, List.set_cons_zero, List.set_cons_succ, List.append_nil, List.nil_append, List.cons_append, List.length_cons, List.length_nil, Nat.reduceLeDiff, Nat.reduceAdd, Bool.not_true, Bool.not_false, T_ok, x_kMt, x_sMt, x_mtN, x_mtC, x_sWh, true_or, true_and, and_true, if_true, if_false, e3]
        · rw [hacc, List.take_add_one, hq]; simp)
    rw [← hlen, List.take_length] at g1
    have em : (ks.map fun q => D.int (manyP q : Nat)) = (ks.map fun q => ((manyP q : Nat) : Int)).map D.int := by rw [List.map_map]; rfl
    rw [g1, em] at g3
    have hsum : (ks.map fun q => ((manyP q : Nat) : Int)).sum = ((manyS ks : Nat) : Int) := by
      unfold manyS
      generalize ks = ks
      induction ks with
      | nil => rfl
      | cons a ks ih => simp only [List.map_cons, List.sum_cons, ih]; omega
    refine ⟨M', ?_, g4⟩
    simp only [L_law_many, bind_ok, bind_ex, outE_ok, outE_ex, retF_nx, retF_rt, retF_xc, x_optR, x_eV, x_eC, x_kB, x_eB, x_eU, x_eF, x_kM, x_eM, x_ift, x_iff, x_eIf, x_kTup, x_kLst, x_eTup, x_eLst, x_aN, x_kCc, x_kC, x_aC, x_tV, x_kCn, x_kCm, x_tCm, x_okB, x_tA, x_tO, x_kN, x_tN, x_tCh, x_kCj, x_kCi, x_kCh, x_eCh, x_kNb, x_kAn, x_kOr, x_kNo, x_eAnd, x_eOr, x_eNot, x_kCl, x_eCall, x_kS2, x_kS1, x_eSl, x_oN, x_asO, x_oS, x_mLoc, x_kML, x_eML, x_kM0, x_kMl0, x_eML0, x_truB, x_truI, x_asB, x_cnx, x_crt, x_cbk, x_cct, x_cxc, x_sSeq, x_sNil, x_sBrk, x_sCnt, x_kEx, x_kSet, x_sEx, x_sSet, x_okO, x_putsN, x_putsC, x_kPar, x_sPar, x_kRet, x_sRet, x_sRetN, x_sIf, x_kSb3, x_kSb2, x_kSb1, x_sSub, x_kAsg, x_sAsg, x_pnm, x_ptp, x_kFor, x_sFor, x_itT, x_iR1, x_kR2, x_iR2, x_iE, x_tY, x_wN, x_wC, List.getElem?_cons_zero, List.getElem?_cons_succ, List.set_cons_zero, List.set_cons_succ, List.append_nil, List.nil_append, List.cons_append, List.length_cons, List.length_nil, Nat.reduceLeDiff, Nat.reduceAdd, Bool.not_true, Bool.not_false, T_ok, x_kMt, x_sMt, x_mtN, x_mtC, x_sWh, true_or, true_and, and_true, if_true, if_false, e1, hN, e2, sum_at g3, hsum, (eq_nilT (ds := es)).2, hb, dAdd]
    rw [eqm]; rfl
theorem parts_depth {p : PyData} {ks : List PyData} (h : partsP p = some ks) : ∀ q ∈ ks, q.depth < p.depth := by
  intro q m
  unfold partsP at h
  split at h
  · split at h
    · split at h <;> cases h; cases m
    · split at h
      · split at h <;> cases h; cases m
      · split at h <;> cases h
        simp only [List.mem_cons, List.not_mem_nil, or_false] at m
        subst m
        simp only [PyData.depth, PyData.depthAll]; omega
  · split at h
    · cases h
      simp only [List.mem_cons, List.not_mem_nil, or_false] at m
      rcases m with rfl | rfl <;> (simp only [PyData.depth, PyData.depthAll]; omega)
    · split at h
      · split at h <;> cases h
        simp only [List.mem_cons, List.not_mem_nil, or_false] at m
        subst m
        simp only [PyData.depth, PyData.depthAll]; omega
      · split at h
        · split at h <;> cases h
          simp only [List.mem_cons, List.not_mem_nil, or_false] at m
          subst m
          simp only [PyData.depth, PyData.depthAll]; omega
        · cases h
  · cases h
theorem many_run {run : Nat → Nat → Fn} {i g c : Nat} (hp : ∀ k, IsPartsT (run (k + c) g)) (h : ∀ k d M, run (k + 1) i [d] M = retF (L_law_many (run k g) (run k i) [some d, none, none] M)) : ∀ (n : Nat) (p : PyData) (k : Nat), p.depth ≤ n → ManyT (run (k + n + c + 1) i) p
  | 0, p, k, hd => many_step (hp k) (h (k + c)) fun ks e q m => absurd (parts_depth e q m) (by omega)
  | n + 1, p, k, hd => by
    have e1 : k + (n + 1) + c = (k + n + 1) + c := by omega
    have e2 : k + (n + 1) + c = k + n + c + 1 := by omega
    refine many_step (f := run (k + (n + 1) + c + 1) i) (pf := run (k + (n + 1) + c) g) (self := run (k + (n + 1) + c) i) (by rw [e1]; exact hp _) (h _) fun ks e q m => ?_
    rw [e2]
    exact many_run hp h n q k (by have := parts_depth e q m; omega)
end G

/-! X13: statements: form; drawn ones. -/
namespace G
open PySem L2
inductive Tw where
  | eq | bel | les
def Tw.word : Tw → Str
  | .eq => "equal" | .bel => "below" | .les => "less"
inductive Sta where
  | tst (w : Tw) (a b : Ex) | bo (s t : Sta) | ei (s t : Sta) | ne (s : Sta)
def Sta.enc : Sta → D
  | .tst w a b => .tup [.str w.word, a.enc, b.enc]
  | .bo s t => .tup [.str "both", s.enc, t.enc]
  | .ei s t => .tup [.str "either", s.enc, t.enc]
  | .ne s => .tup [.str "neither", s.enc]
/-- its expressions are such, with at most n operations -/
def Sta.ok (n : Nat) : Sta → Prop
  | .tst _ a b => (a.ok ∧ a.ops ≤ n) ∧ b.ok ∧ b.ops ≤ n
  | .bo s t => s.ok n ∧ t.ok n
  | .ei s t => s.ok n ∧ t.ok n
  | .ne s => s.ok n
def Sta.tests : Sta → Nat
  | .tst _ _ _ => 1
  | .bo s t => s.tests + t.tests
  | .ei s t => s.tests + t.tests
  | .ne s => s.tests
def Sta.words : Sta → Nat
  | .tst _ _ _ => 0
  | .bo s t => s.words + t.words + 1
  | .ei s t => s.words + t.words + 1
  | .ne s => s.words + 1
def Sta.ops : Sta → Nat
  | .tst _ a b => a.ops + b.ops
  | .bo s t => s.ops + t.ops
  | .ei s t => s.ops + t.ops
  | .ne s => s.ops
theorem Sta.ok_mono {n m : Nat} (l : n ≤ m) {s : Sta} : s.ok n → s.ok m := by
  induction s with
  | tst w a b => exact fun h => ⟨⟨h.1.1, Nat.le_trans h.1.2 l⟩, h.2.1, Nat.le_trans h.2.2 l⟩
  | bo s t ih1 ih2 => exact fun h => ⟨ih1 h.1, ih2 h.2⟩
  | ei s t ih1 ih2 => exact fun h => ⟨ih1 h.1, ih2 h.2⟩
  | ne s ih => exact fun h => ih h
/-! ### drawn expressions that keep little -/
def Mild (f : Fn) : Prop := ∀ {t p m : Nat} {M : Mem}, PenAt t p M → t + 500 < 1000000000 → m ≤ 3 →
  ∃ (e : Ex) (M' : Mem), f [.loc p, .int m] M = .ok e.enc M' ∧ e.ok ∧ e.ops ≤ m ∧ PenAt (t + 140) p M' ∧ Kp (N1 p) M M'
def L_mild (df : Fn) : LS := (sRet (eCall df [] (aC (eV 0) (aC (eV 1) (aC (eC (.int 4)) (aC (eC (.int 2)) (aC (eC (.int 3)) aN)))))))
theorem isMild {f df : Fn} (hd : ∀ m, m ≤ 3 → Draws df m) (h : ∀ d e M, f [d, e] M = retF (L_mild df [some d, some e] M)) : Mild f := fun {t p m M} hp ht hm => by
  obtain ⟨e, M', e1, a1, b1, c1, d1⟩ := hd m hm (far := 4) (sh := 2) (sc := 3) hp (by omega) (by decide) (by decide) (by decide) (by decide)
  refine ⟨e, M', ?_, a1, b1, c1.mono (by omega), d1⟩
  rw [h]
  have e1' : df [.loc p, .int m, .int 4, .int 2, .int 3] M = .ok e.enc M' := e1
  simp only [L_mild, bind_ok, bind_ex, outE_ok, outE_ex, retF_nx, retF_rt, retF_xc, x_optR, x_eV, x_eC, x_kB, x_eB, x_eU, x_eF, x_kM, x_eM, x_ift, x_iff, x_eIf, x_kTup, x_kLst, x_eTup, x_eLst, x_aN, x_kCc, x_kC, x_aC, x_tV, x_kCn, x_kCm, x_tCm, x_okB, x_tA, x_tO, x_kN, x_tN, x_tCh, x_kCj, x_kCi, x_kCh, x_eCh, x_kNb, x_kAn, x_kOr, x_kNo, x_eAnd, x_eOr, x_eNot, x_kCl, x_eCall, x_kS2, x_kS1, x_eSl, x_oN, x_asO, x_oS, x_mLoc, x_kML, x_eML, x_kM0, x_kMl0, x_eML0, x_truB, x_truI, x_asB, x_cnx, x_crt, x_cbk, x_cct, x_cxc, x_sSeq, x_sNil, x_sBrk, x_sCnt, x_kEx, x_kSet, x_sEx, x_sSet, x_okO, x_putsN, x_putsC, x_kPar, x_sPar, x_kRet, x_sRet, x_sRetN, x_sIf, x_kSb3, x_kSb2, x_kSb1, x_sSub, x_kAsg, x_sAsg, x_pnm, x_ptp, x_kFor, x_sFor, x_itT, x_iR1, x_kR2, x_iR2, x_iE, x_tY, x_wN, x_wC, List.getElem?_cons_zero, List.getElem?_cons_succ, List.set_cons_zero, List.set_cons_succ, List.append_nil, List.nil_append, List.cons_append, List.length_cons, List.length_nil, Nat.reduceLeDiff, Nat.reduceAdd, Bool.not_true, Bool.not_false, T_ok, x_kMt, x_sMt, x_mtN, x_mtC, x_sWh, true_or, true_and, and_true, if_true, if_false, e1']
def L_plain (dr pk mi : Fn) : LS :=
  (sSeq (sSet 1 (eCall pk [] (aC (eV 0) (aC (eLst (aC (eC (.str "equal")) (aC (eC (.str "equal")) (aC (eC (.str "below")) (aC (eC (.str "less")) aN))))) aN))))
  (sRet (eTup (aC (eV 1) (aC (eCall mi [] (aC (eV 0) (aC (eC (.int 2)) aN))) (aC (eCall mi [] (aC (eV 0) (aC (eCall dr [] (aC (eV 0) (aC (eC (.int 3)) aN))) aN))) aN))))))
def SDraw (f : Fn) : Prop := ∀ {t p : Nat} {M : Mem}, PenAt t p M → t + 1000 < 1000000000 →
  ∃ (w : Tw) (a b : Ex) (M' : Mem), f [.loc p] M = .ok (Sta.tst w a b).enc M' ∧ (Sta.tst w a b).ok 2 ∧ PenAt (t + 290) p M' ∧ Kp (N1 p) M M'
theorem plain_ok {f dr pk mi : Fn} (hd : IsDraw dr) (hp : IsPick pk) (hm : Mild mi) (h : ∀ d M, f [d] M = retF (L_plain dr pk mi [some d, none] M)) : SDraw f := fun {t p M} hpen ht => by
  have hpl := hpen.lt
  obtain ⟨d, M1, m1, e1, c1, k1, _⟩ := hp (q := M.length) (M := M ++ [.lst [D.str "equal", .str "equal", .str "below", .str "less"]]) (hpen.kp (S := N0) (Kp.push _ _) id) (by omega) (push_at _ _) (by omega) (by simp) (by simp)
  obtain ⟨w, rfl⟩ : ∃ w : Tw, d = .str w.word := by
    simp only [List.mem_cons, List.not_mem_nil, or_false] at m1
    rcases m1 with rfl | rfl | rfl | rfl
    · exact ⟨.eq, rfl⟩
    · exact ⟨.eq, rfl⟩
    · exact ⟨.bel, rfl⟩
    · exact ⟨.les, rfl⟩
  obtain ⟨a, M2, e2, a2, b2, c2, k2⟩ := hm (m := 2) c1 (by omega) (by decide)
  obtain ⟨v, M3, e3, a3, b3, c3, k3, _⟩ := hd (n := 3) 3 c2 (by omega) (by omega) (by decide) (by omega) (by omega)
  obtain ⟨v, rfl⟩ := Int.eq_ofNat_of_zero_le a3
  obtain ⟨b, M4, e4, a4, b4, c4, k4⟩ := hm (m := v) c3 (by omega) (by omega)
  refine ⟨w, a, b, M4, ?_, ⟨⟨a2, b2⟩, a4, by omega⟩, c4.mono (by omega), (((Kp.push M _).trans k1).trans k2).trans (k3.trans k4)⟩
  rw [h]
  have e2' : mi [.loc p, .int 2] M1 = .ok a.enc M2 := e2
  simp only [L_plain, bind_ok, bind_ex, outE_ok, outE_ex, retF_nx, retF_rt, retF_xc, x_optR, x_eV, x_eC, x_kB, x_eB, x_eU, x_eF, x_kM, x_eM, x_ift, x_iff, x_eIf, x_kTup, x_kLst, x_eTup, x_eLst, x_aN, x_kCc, x_kC, x_aC, x_tV, x_kCn, x_kCm, x_tCm, x_okB, x_tA, x_tO, x_kN, x_tN, x_tCh, x_kCj, x_kCi, x_kCh, x_eCh, x_kNb, x_kAn, x_kOr, x_kNo, x_eAnd, x_eOr, x_eNot, x_kCl, x_eCall, x_kS2, x_kS1, x_eSl, x_oN, x_asO, x_oS, x_mLoc, x_kML, x_eML, x_kM0, x_kMl0, x_eML0, x_truB, x_truI, x_asB, x_cnx, x_crt, x_cbk, x_cct, x_cxc, x_sSeq, x_sNil, x_sBrk, x_sCnt, x_kEx, x_kSet, x_sEx, x_sSet, x_okO, x_putsN, x_putsC, x_kPar, x_sPar, x_kRet, x_sRet, x_sRetN, x_sIf, x_kSb3, x_kSb2, x_kSb1, x_sSub, x_kAsg, x_sAsg, x_pnm, x_ptp, x_kFor, x_sFor, x_itT, x_iR1, x_kR2, x_iR2, x_iE, x_tY, x_wN, x_wC, List.getElem?_cons_zero, List.getElem?_cons_succ, List.set_cons_zero, List.set_cons_succ, List.append_nil, List.nil_append, List.cons_append, List.length_cons, List.length_nil, Nat.reduceLeDiff, Nat.reduceAdd, Bool.not_true, Bool.not_false, T_ok, x_kMt, x_sMt, x_mtN, x_mtC, x_sWh, true_or, true_and, and_true, if_true, if_false, e1, e2', e3, e4, Sta.enc]
def oddK (dr : Fn) : LE := eCall dr [] (aC (eV 0) (aC (eC (.int 2)) aN))
def L_oddw (dr pk : Fn) : LS :=
  (sSeq (sSet 1 (eTup (aC (eC (.str "var")) (aC (eCall dr [] (aC (eV 0) (aC (eC (.int 3)) aN))) aN))))
  (sSeq (sIf (tCm dEq (eCall dr [] (aC (eV 0) (aC (eC (.int 2)) aN))) (eC (.int 0)))
  (sSeq (sSet 2 (eTup (aC (eC (.str "number")) (aC (eCall pk [] (aC (eV 0) (aC (eLst (aC (eC (.int 1)) (aC (eU dNeg (eC (.int 1))) (aC (eC (.int 2)) (aC (eC (.int 0)) (aC (eC (.int 3)) aN)))))) aN))) aN))))
  (sRet (eTup (aC (eC (.str "equal")) (aC (eTup (aC (eC (.str "times")) (aC (eCall pk [] (aC (eV 0) (aC (eLst (aC (eC (.int 3)) (aC (eC (.int 5)) (aC (eU dNeg (eC (.int 3))) (aC (eC (.int 7)) (aC (eC (.int 2)) (aC (eC (.int 6)) aN))))))) aN))) (aC (eV 1) aN)))) (aC (eV 2) aN))))))
  sNil)
  (sRet (eTup (aC (eC (.str "equal")) (aC (eTup (aC (eC (.str "xor")) (aC (eV 1) (aC (eTup (aC (eC (.str "shift")) (aC (eV 1) (aC (eB dAdd (eC (.int 1)) (eCall dr [] (aC (eV 0) (aC (eC (.int 2)) aN)))) aN)))) aN)))) (aC (eTup (aC (eC (.str "number")) (aC (eCall pk [] (aC (eV 0) (aC (eLst (aC (eU dNeg (eC (.int 1))) (aC (eC (.int 1)) (aC (eC (.int 5)) aN)))) aN))) aN))) aN)))))))
theorem oddw_ok {f dr pk : Fn} (hd : IsDraw dr) (hp : IsPick pk) (h : ∀ d M, f [d] M = retF (L_oddw dr pk [some d, none, none] M)) : SDraw f := fun {t p M} hpen ht => by
  rw [h]
  obtain ⟨i, M1, e1, a1, b1, c1, k1, _⟩ := hd (n := 3) 3 hpen (by omega) (by omega) (by decide) (by omega) (by omega)
  obtain ⟨i, rfl⟩ := Int.eq_ofNat_of_zero_le a1
  have hi : i < 3 := by omega
  obtain ⟨v, M2, e2, a2, b2, c2, k2, _⟩ := hd (n := 2) 3 c1 (by omega) (by omega) (by decide) (by omega) (by omega)
  by_cases hv : v = 0
  · subst hv
    have hz : ∀ M, dEq (.int 0) (.int 0) M = .ok (.bl true) M := fun _ => rfl
    have hl2 := c2.lt
    obtain ⟨d, M3, m3, e3, c3, k3, _⟩ := hp (q := M2.length) (M := M2 ++ [.lst [D.int 1, .int (-1), .int 2, .int 0, .int 3]]) (c2.kp (S := N0) (Kp.push _ _) id) (by omega) (push_at _ _) (by omega) (by simp) (by simp)
    obtain ⟨n, rfl, n1, n2⟩ : ∃ n : Int, d = .int n ∧ -1000 ≤ n ∧ n ≤ 1000 := by
      simp only [List.mem_cons, List.not_mem_nil, or_false] at m3
      rcases m3 with rfl | rfl | rfl | rfl | rfl <;> exact ⟨_, rfl, by omega, by omega⟩
    have hl3 := c3.lt
    obtain ⟨d, M4, m4, e4, c4, k4, _⟩ := hp (q := M3.length) (M := M3 ++ [.lst [D.int 3, .int 5, .int (-3), .int 7, .int 2, .int 6]]) (c3.kp (S := N0) (Kp.push _ _) id) (by omega) (push_at _ _) (by omega) (by simp) (by simp)
    obtain ⟨g, rfl, g1, g2⟩ : ∃ n : Int, d = .int n ∧ -9 ≤ n ∧ n ≤ 9 := by
      simp only [List.mem_cons, List.not_mem_nil, or_false] at m4
      rcases m4 with rfl | rfl | rfl | rfl | rfl | rfl <;> exact ⟨_, rfl, by omega, by omega⟩
    refine ⟨.eq, .times g (.var i), .num n, M4, ?_, ⟨⟨⟨⟨g1, g2⟩, hi⟩, by simp only [Ex.ops]; omega⟩, ⟨n1, n2⟩, Nat.zero_le _⟩, c4.mono (by omega), (((k1.trans k2).trans (Kp.push _ _)).trans k3).trans ((Kp.push _ _).trans k4)⟩
    simp only [L_oddw, bind_ok, bind_ex, outE_ok, outE_ex, retF_nx, retF_rt, retF_xc, x_optR, x_eV, x_eC, x_kB, x_eB, x_eU, x_eF, x_kM, x_eM, x_ift, x_iff, x_eIf, x_kTup, x_kLst, x_eTup, x_eLst, x_aN, x_kCc, x_kC, x_aC, x_tV, x_kCn, x_kCm, x_tCm, x_okB, x_tA, x_tO, x_kN, x_tN, x_tCh, x_kCj, x_kCi, x_kCh, x_eCh, x_kNb, x_kAn, x_kOr, x_kNo, x_eAnd, x_eOr, x_eNot, x_kCl, x_eCall, x_kS2, x_kS1, x_eSl, x_oN, x_asO, x_oS, x_mLoc, x_kML, x_eML, x_kM0, x_kMl0, x_eML0, x_truB, x_truI, x_asB, x_cnx, x_crt, x_cbk, x_cct, x_cxc, x_sSeq, x_sNil, x_sBrk, x_sCnt, x_kEx, x_kSet, x_sEx, x_sSet, x_okO, x_putsN, x_putsC, x_kPar, x_sPar, x_kRet, x_sRet, x_sRetN, x_sIf, x_kSb3, x_kSb2, x_kSb1, x_sSub, x_kAsg, x_sAsg, x_pnm, x_ptp, x_kFor, x_sFor, x_itT, x_iR1, x_kR2, x_iR2, x_iE, x_tY, x_wN, x_wC, List.getElem?_cons_zero, List.getElem?_cons_succ, List.set_cons_zero, List.set_cons_succ, List.append_nil, List.nil_append, List.cons_append, List.length_cons, List.length_nil, Nat.reduceLeDiff, Nat.reduceAdd, Bool.not_true, Bool.not_false, T_ok, x_kMt, x_sMt, x_mtN, x_mtC, x_sWh, true_or, true_and, and_true, if_true, if_false, e1, e2, hz, dNeg, e3, e4, Sta.enc, Ex.enc, Tw.word]
  · have hz : ∀ M, dEq (.int v) (.int 0) M = .ok (.bl false) M := fun M => by rw [eq_int]; simp [hv]
    obtain ⟨u, M3, e3, a3, b3, c3, k3, _⟩ := hd (n := 2) 3 c2 (by omega) (by omega) (by decide) (by omega) (by omega)
    obtain ⟨u, rfl⟩ := Int.eq_ofNat_of_zero_le a3
    have hl3 := c3.lt
    obtain ⟨d, M4, m4, e4, c4, k4, _⟩ := hp (q := M3.length) (M := M3 ++ [.lst [D.int (-1), .int 1, .int 5]]) (c3.kp (S := N0) (Kp.push _ _) id) (by omega) (push_at _ _) (by omega) (by simp) (by simp)
    obtain ⟨n, rfl, n1, n2⟩ : ∃ n : Int, d = .int n ∧ -1000 ≤ n ∧ n ≤ 1000 := by
      simp only [List.mem_cons, List.not_mem_nil, or_false] at m4
      rcases m4 with rfl | rfl | rfl <;> exact ⟨_, rfl, by omega, by omega⟩
    refine ⟨.eq, .bin .xor (.var i) (.shift (.var i) (1 + u)), .num n, M4, ?_, ⟨⟨⟨hi, hi, by omega, by omega⟩, by simp only [Ex.ops]; omega⟩, ⟨n1, n2⟩, Nat.zero_le _⟩, c4.mono (by omega), ((k1.trans k2).trans k3).trans ((Kp.push _ _).trans k4)⟩
    have ha : ∀ M, dAdd (.int 1) (.int (u : Int)) M = .ok (.int ((1 + u : Nat) : Int)) M := fun M => by simp only [dAdd]; congr 2
    simp only [L_oddw, bind_ok, bind_ex, outE_ok, outE_ex, retF_nx, retF_rt, retF_xc, x_optR, x_eV, x_eC, x_kB, x_eB, x_eU, x_eF, x_kM, x_eM, x_ift, x_iff, x_eIf, x_kTup, x_kLst, x_eTup, x_eLst, x_aN, x_kCc, x_kC, x_aC, x_tV, x_kCn, x_kCm, x_tCm, x_okB, x_tA, x_tO, x_kN, x_tN, x_tCh, x_kCj, x_kCi, x_kCh, x_eCh, x_kNb, x_kAn, x_kOr, x_kNo, x_eAnd, x_eOr, x_eNot, x_kCl, x_eCall, x_kS2, x_kS1, x_eSl, x_oN, x_asO, x_oS, x_mLoc, x_kML, x_eML, x_kM0, x_kMl0, x_eML0, x_truB, x_truI, x_asB, x_cnx, x_crt, x_cbk, x_cct, x_cxc, x_sSeq, x_sNil, x_sBrk, x_sCnt, x_kEx, x_kSet, x_sEx, x_sSet, x_okO, x_putsN, x_putsC, x_kPar, x_sPar, x_kRet, x_sRet, x_sRetN, x_sIf, x_kSb3, x_kSb2, x_kSb1, x_sSub, x_kAsg, x_sAsg, x_pnm, x_ptp, x_kFor, x_sFor, x_itT, x_iR1, x_kR2, x_iR2, x_iE, x_tY, x_wN, x_wC, List.getElem?_cons_zero, List.getElem?_cons_succ, List.set_cons_zero, List.set_cons_succ, List.append_nil, List.nil_append, List.cons_append, List.length_cons, List.length_nil, Nat.reduceLeDiff, Nat.reduceAdd, Bool.not_true, Bool.not_false, T_ok, x_kMt, x_sMt, x_mtN, x_mtC, x_sWh, true_or, true_and, and_true, if_true, if_false, e1, e2, hz, dNeg, e3, ha, e4, Sta.enc, Ex.enc, Tw.word, Op.word]
def L_stated (dr pk ow pl self : Fn) : LS :=
  (sSeq (sIf ((tO (tCm dEq (eV 1) (eC (.int 0))) (tCm dEq (eCall dr [] (aC (eV 0) (aC (eC (.int 3)) aN))) (eC (.int 0)))))
  (sRet (eIf (tCm dEq (eCall dr [] (aC (eV 0) (aC (eC (.int 3)) aN))) (eC (.int 0))) (eCall ow [] (aC (eV 0) aN)) (eCall pl [] (aC (eV 0) aN))))
  sNil)
  (sSeq (sSet 2 (eCall pk [] (aC (eV 0) (aC (eLst (aC (eC (.str "both")) (aC (eC (.str "both")) (aC (eC (.str "either")) (aC (eC (.str "neither")) aN))))) aN))))
  (sSeq (sIf (tCm dEq (eV 2) (eC (.str "neither")))
  (sRet (eTup (aC (eV 2) (aC (eCall self [] (aC (eV 0) (aC (eB dSub (eV 1) (eC (.int 1))) aN))) aN))))
  sNil)
  (sRet (eTup (aC (eV 2) (aC (eCall self [] (aC (eV 0) (aC (eB dSub (eV 1) (eC (.int 1))) aN))) (aC (eCall self [] (aC (eV 0) (aC (eC (.int 0)) aN))) aN))))))))
def Stated (f : Fn) (m : Nat) : Prop := ∀ {t p : Nat} {M : Mem}, PenAt t p M → t + 2000 * (m + 1) < 1000000000 →
  ∃ (s : Sta) (M' : Mem), f [.loc p, .int m] M = .ok s.enc M' ∧ s.ok 2 ∧ s.tests ≤ m + 1 ∧ s.words ≤ m ∧ s.ops ≤ 4 * (m + 1) ∧ PenAt (t + (400 + 500 * m)) p M' ∧ Kp (N1 p) M M'
theorem stated_step {f dr pk ow pl self : Fn} (hd : IsDraw dr) (hp : IsPick pk) (ho : SDraw ow) (hl : SDraw pl) (h : ∀ d e M, f [d, e] M = retF (L_stated dr pk ow pl self [some d, some e, none] M)) {m : Nat} (hm : m ≤ 100) (ih : 0 < m → Stated self (m - 1) ∧ Stated self 0) : Stated f m := fun {t p M} hpen ht => by
  rw [h]
  -- a test
  have leaf : ∀ (M1 : Mem) (t1 : Nat), PenAt t1 p M1 → t1 + 1100 < 1000000000 → Kp (N1 p) M M1 → ∃ (s : Sta) (M' : Mem), (eIf (tCm dEq (eCall dr [] (aC (eV 0) (aC (eC (.int 3)) aN))) (eC (.int 0))) (eCall ow [] (aC (eV 0) aN)) (eCall pl [] (aC (eV 0) aN))) [some (.loc p), some (.int m), none] M1 = .ok s.enc M' ∧ s.ok 2 ∧ s.tests = 1 ∧ s.words = 0 ∧ s.ops ≤ 4 ∧ PenAt (t1 + 300) p M' ∧ Kp (N1 p) M M' := by
    intro M1 t1 hp1 ht1 k1
    obtain ⟨v, M2, e2, a2, b2, c2, k2, _⟩ := hd (n := 3) 3 hp1 (by omega) (by omega) (by decide) (by omega) (by omega)
    by_cases hv : v = 0
    · subst hv
      obtain ⟨w, a, b, M3, e3, o3, c3, k3⟩ := ho c2 (by omega)
      have hz : ∀ M, dEq (.int 0) (.int 0) M = .ok (.bl true) M := fun _ => rfl
      refine ⟨.tst w a b, M3, ?_, o3, rfl, rfl, ?_, c3.mono (by omega), (k1.trans k2).trans k3⟩
      · simp only [bind_ok, bind_ex, outE_ok, outE_ex, retF_nx, retF_rt, retF_xc, x_optR, x_eV, x_eC, x_kB, x_eB, x_eU, x_eF, x_kM, x_eM, x_ift, x_iff, x_eIf, x_kTup, x_kLst, x_eTup, x_eLst, x_aN, x_kCc, x_kC, x_aC, x_tV, x_kCn, x_kCm, x_tCm, x_okB, x_tA, x_tO, x_kN, x_tN, x_tCh, x_kCj, x_kCi, x_kCh, x_eCh, x_kNb, x_kAn, x_kOr, x_kNo, x_eAnd, x_eOr, x_eNot, x_kCl, x_eCall, x_kS2, x_kS1, x_eSl, x_oN, x_asO, x_oS, x_mLoc, x_kML, x_eML, x_kM0, x_kMl0, x_eML0, x_truB, x_truI, x_asB, x_cnx, x_crt, x_cbk, x_cct, x_cxc, x_sSeq, x_sNil, x_sBrk, x_sCnt, x_kEx, x_kSet, x_sEx, x_sSet, x_okO, x_putsN, x_putsC, x_kPar, x_sPar, x_kRet, x_sRet, x_sRetN, x_sIf, x_kSb3, x_kSb2, x_kSb1, x_sSub, x_kAsg, x_sAsg, x_pnm, x_ptp, x_kFor, x_sFor, x_itT, x_iR1, x_kR2, x_iR2, x_iE, x_tY, x_wN, x_wC, List.getElem?_cons_zero, List.getElem?_cons_succ, List.set_cons_zero, List.set_cons_succ, List.append_nil, List.nil_append, List.cons_append, List.length_cons, List.length_nil, Nat.reduceLeDiff, Nat.reduceAdd, Bool.not_true, Bool.not_false, T_ok, x_kMt, x_sMt, x_mtN, x_mtC, x_sWh, true_or, true_and, and_true, if_true, if_false, e2, hz, e3]
      · have := o3.1.2; have := o3.2.2; simp only [Sta.ops]; omega
    · have hz : ∀ M, dEq (.int v) (.int 0) M = .ok (.bl false) M := fun M => by rw [eq_int]; simp [hv]
      obtain ⟨w, a, b, M3, e3, o3, c3, k3⟩ := hl c2 (by omega)
      refine ⟨.tst w a b, M3, ?_, o3, rfl, rfl, ?_, c3.mono (by omega), (k1.trans k2).trans k3⟩
      · simp only [bind_ok, bind_ex, outE_ok, outE_ex, retF_nx, retF_rt, retF_xc, x_optR, x_eV, x_eC, x_kB, x_eB, x_eU, x_eF, x_kM, x_eM, x_ift, x_iff, x_eIf, x_kTup, x_kLst, x_eTup, x_eLst, x_aN, x_kCc, x_kC, x_aC, x_tV, x_kCn, x_kCm, x_tCm, x_okB, x_tA, x_tO, x_kN, x_tN, x_tCh, x_kCj, x_kCi, x_kCh, x_eCh, x_kNb, x_kAn, x_kOr, x_kNo, x_eAnd, x_eOr, x_eNot, x_kCl, x_eCall, x_kS2, x_kS1, x_eSl, x_oN, x_asO, x_oS, x_mLoc, x_kML, x_eML, x_kM0, x_kMl0, x_eML0, x_truB, x_truI, x_asB, x_cnx, x_crt, x_cbk, x_cct, x_cxc, x_sSeq, x_sNil, x_sBrk, x_sCnt, x_kEx, x_kSet, x_sEx, x_sSet, x_okO, x_putsN, x_putsC, x_kPar, x_sPar, x_kRet, x_sRet, x_sRetN, x_sIf, x_kSb3, x_kSb2, x_kSb1, x_sSub, x_kAsg, x_sAsg, x_pnm, x_ptp, x_kFor, x_sFor, x_itT, x_iR1, x_kR2, x_iR2, x_iE, x_tY, x_wN, x_wC, List.getElem?_cons_zero, List.getElem?_cons_succ, List.set_cons_zero, List.set_cons_succ, List.append_nil, List.nil_append, List.cons_append, List.length_cons, List.length_nil, Nat.reduceLeDiff, Nat.reduceAdd, Bool.not_true, Bool.not_false, T_ok, x_kMt, x_sMt, x_mtN, x_mtC, x_sWh, true_or, true_and, and_true, if_true, if_false, e2, hz, e3]
      · have := o3.1.2; have := o3.2.2; simp only [Sta.ops]; omega
  by_cases hm0 : m = 0
  · subst hm0
    obtain ⟨s, M', e, o, t1, w1, p1, c, k⟩ := leaf M t hpen (by omega) (Kp.refl _)
    have hz : ∀ M, dEq (.int ((0 : Nat) : Int)) (.int 0) M = .ok (.bl true) M := fun _ => rfl
    refine ⟨s, M', ?_, o, by omega, by omega, by omega, c.mono (by omega), k⟩
    simp only [bind_ok, bind_ex, outE_ok, outE_ex, retF_nx, retF_rt, retF_xc, x_optR, x_eV, x_eC, x_kB, x_eB, x_eU, x_eF, x_kM, x_eM, x_ift, x_iff, x_eIf, x_kTup, x_kLst, x_eTup, x_eLst, x_aN, x_kCc, x_kC, x_aC, x_tV, x_kCn, x_kCm, x_tCm, x_okB, x_tA, x_tO, x_kN, x_tN, x_tCh, x_kCj, x_kCi, x_kCh, x_eCh, x_kNb, x_kAn, x_kOr, x_kNo, x_eAnd, x_eOr, x_eNot, x_kCl, x_eCall, x_kS2, x_kS1, x_eSl, x_oN, x_asO, x_oS, x_mLoc, x_kML, x_eML, x_kM0, x_kMl0, x_eML0, x_truB, x_truI, x_asB, x_cnx, x_crt, x_cbk, x_cct, x_cxc, x_sSeq, x_sNil, x_sBrk, x_sCnt, x_kEx, x_kSet, x_sEx, x_sSet, x_okO, x_putsN, x_putsC, x_kPar, x_sPar, x_kRet, x_sRet, x_sRetN, x_sIf, x_kSb3, x_kSb2, x_kSb1, x_sSub, x_kAsg, x_sAsg, x_pnm, x_ptp, x_kFor, x_sFor, x_itT, x_iR1, x_kR2, x_iR2, x_iE, x_tY, x_wN, x_wC, List.getElem?_cons_zero, List.getElem?_cons_succ, List.set_cons_zero, List.set_cons_succ, List.append_nil, List.nil_append, List.cons_append, List.length_cons, List.length_nil, Nat.reduceLeDiff, Nat.reduceAdd, Bool.not_true, Bool.not_false, T_ok, x_kMt, x_sMt, x_mtN, x_mtC, x_sWh, true_or, true_and, and_true, if_true, if_false] at e
    simp only [L_stated, bind_ok, bind_ex, outE_ok, outE_ex, retF_nx, retF_rt, retF_xc, x_optR, x_eV, x_eC, x_kB, x_eB, x_eU, x_eF, x_kM, x_eM, x_ift, x_iff, x_eIf, x_kTup, x_kLst, x_eTup, x_eLst, x_aN, x_kCc, x_kC, x_aC, x_tV, x_kCn, x_kCm, x_tCm, x_okB, x_tA, x_tO, x_kN, x_tN, x_tCh, x_kCj, x_kCi, x_kCh, x_eCh, x_kNb, x_kAn, x_kOr, x_kNo, x_eAnd, x_eOr, x_eNot, x_kCl, x_eCall, x_kS2, x_kS1, x_eSl, x_oN, x_asO, x_oS, x_mLoc, x_kML, x_eML, x_kM0, x_kMl0, x_eML0, x_truB, x_truI, x_asB, x_cnx, x_crt, x_cbk, x_cct, x_cxc, x_sSeq, x_sNil, x_sBrk, x_sCnt, x_kEx, x_kSet, x_sEx, x_sSet, x_okO, x_putsN, x_putsC, x_kPar, x_sPar, x_kRet, x_sRet, x_sRetN, x_sIf, x_kSb3, x_kSb2, x_kSb1, x_sSub, x_kAsg, x_sAsg, x_pnm, x_ptp, x_kFor, x_sFor, x_itT, x_iR1, x_kR2, x_iR2, x_iE, x_tY, x_wN, x_wC, List.getElem?_cons_zero, List.getElem?_cons_succ, List.set_cons_zero, List.set_cons_succ, List.append_nil, List.nil_append, List.cons_append, List.length_cons, List.length_nil, Nat.reduceLeDiff, Nat.reduceAdd, Bool.not_true, Bool.not_false, T_ok, x_kMt, x_sMt, x_mtN, x_mtC, x_sWh, true_or, true_and, and_true, if_true, if_false, hz]
    rw [e]; rfl
  · have hz : ∀ M, dEq (.int (m : Nat)) (.int 0) M = .ok (.bl false) M := fun M => by rw [eq_int]; simp [hm0]
    obtain ⟨v, M2, e2, a2, b2, c2, k2, _⟩ := hd (n := 3) 3 hpen (by omega) (by omega) (by decide) (by omega) (by omega)
    by_cases hv : v = 0
    · subst hv
      have hz2 : ∀ M, dEq (.int 0) (.int 0) M = .ok (.bl true) M := fun _ => rfl
      obtain ⟨s, M', e, o, t1, w1, p1, c, k⟩ := leaf M2 _ c2 (by omega) k2
      refine ⟨s, M', ?_, o, by omega, by omega, by omega, c.mono (by omega), k⟩
      simp only [bind_ok, bind_ex, outE_ok, outE_ex, retF_nx, retF_rt, retF_xc, x_optR, x_eV, x_eC, x_kB, x_eB, x_eU, x_eF, x_kM, x_eM, x_ift, x_iff, x_eIf, x_kTup, x_kLst, x_eTup, x_eLst, x_aN, x_kCc, x_kC, x_aC, x_tV, x_kCn, x_kCm, x_tCm, x_okB, x_tA, x_tO, x_kN, x_tN, x_tCh, x_kCj, x_kCi, x_kCh, x_eCh, x_kNb, x_kAn, x_kOr, x_kNo, x_eAnd, x_eOr, x_eNot, x_kCl, x_eCall, x_kS2, x_kS1, x_eSl, x_oN, x_asO, x_oS, x_mLoc, x_kML, x_eML, x_kM0, x_kMl0, x_eML0, x_truB, x_truI, x_asB, x_cnx, x_crt, x_cbk, x_cct, x_cxc, x_sSeq, x_sNil, x_sBrk, x_sCnt, x_kEx, x_kSet, x_sEx, x_sSet, x_okO, x_putsN, x_putsC, x_kPar, x_sPar, x_kRet, x_sRet, x_sRetN, x_sIf, x_kSb3, x_kSb2, x_kSb1, x_sSub, x_kAsg, x_sAsg, x_pnm, x_ptp, x_kFor, x_sFor, x_itT, x_iR1, x_kR2, x_iR2, x_iE, x_tY, x_wN, x_wC, List.getElem?_cons_zero, List.getElem?_cons_succ, List.set_cons_zero, List.set_cons_succ, List.append_nil, List.nil_append, List.cons_append, List.length_cons, List.length_nil, Nat.reduceLeDiff, Nat.reduceAdd, Bool.not_true, Bool.not_false, T_ok, x_kMt, x_sMt, x_mtN, x_mtC, x_sWh, true_or, true_and, and_true, if_true, if_false] at e
      simp only [L_stated, bind_ok, bind_ex, outE_ok, outE_ex, retF_nx, retF_rt, retF_xc, x_optR, x_eV, x_eC, x_kB, x_eB, x_eU, x_eF, x_kM, x_eM, x_ift, x_iff, x_eIf, x_kTup, x_kLst, x_eTup, x_eLst, x_aN, x_kCc, x_kC, x_aC, x_tV, x_kCn, x_kCm, x_tCm, x_okB, x_tA, x_tO, x_kN, x_tN, x_tCh, x_kCj, x_kCi, x_kCh, x_eCh, x_kNb, x_kAn, x_kOr, x_kNo, x_eAnd, x_eOr, x_eNot, x_kCl, x_eCall, x_kS2, x_kS1, x_eSl, x_oN, x_asO, x_oS, x_mLoc, x_kML, x_eML, x_kM0, x_kMl0, x_eML0, x_truB, x_truI, x_asB, x_cnx, x_crt, x_cbk, x_cct, x_cxc, x_sSeq, x_sNil, x_sBrk, x_sCnt, x_kEx, x_kSet, x_sEx, x_sSet, x_okO, x_putsN, x_putsC, x_kPar, x_sPar, x_kRet, x_sRet, x_sRetN, x_sIf, x_kSb3, x_kSb2, x_kSb1, x_sSub, x_kAsg, x_sAsg, x_pnm, x_ptp, x_kFor, x_sFor, x_itT, x_iR1, x_kR2, x_iR2, x_iE, x_tY, x_wN, x_wC, List.getElem?_cons_zero, List.getElem?_cons_succ, List.set_cons_zero, List.set_cons_succ, List.append_nil, List.nil_append, List.cons_append, List.length_cons, List.length_nil, Nat.reduceLeDiff, Nat.reduceAdd, Bool.not_true, Bool.not_false, T_ok, x_kMt, x_sMt, x_mtN, x_mtC, x_sWh, true_or, true_and, and_true, if_true, if_false, hz, e2, hz2]
      rw [e]; rfl
    · have hz2 : ∀ M, dEq (.int v) (.int 0) M = .ok (.bl false) M := fun M => by rw [eq_int]; simp [hv]
      obtain ⟨ih1, ih0⟩ := ih (by omega)
      have hl2 := c2.lt
      obtain ⟨d, M3, m3, e3, c3, k3, _⟩ := hp (q := M2.length) (M := M2 ++ [.lst [D.str "both", .str "both", .str "either", .str "neither"]]) (c2.kp (S := N0) (Kp.push _ _) id) (by omega) (push_at _ _) (by omega) (by simp) (by simp)
      obtain ⟨s, M4, e4, o4, t4, w4, p4, c4, k4⟩ := ih1 c3 (by omega)
      have hs : ∀ M, dSub (.int (m : Nat)) (.int 1) M = .ok (.int ((m - 1 : Nat) : Int)) M := fun M => by simp only [dSub]; congr 2; omega
      have kk : Kp (N1 p) M M4 := ((k2.trans (Kp.push _ _)).trans k3).trans k4
      simp only [List.mem_cons, List.not_mem_nil, or_false] at m3
      have two : ∀ w : Str, d = .str w → w ≠ "neither" → ∃ (s2 : Sta) (M' : Mem), retF (L_stated dr pk ow pl self [some (.loc p), some (.int m), none] M) = .ok (.tup [.str w, s.enc, s2.enc]) M' ∧ s2.ok 2 ∧ s2.tests ≤ 1 ∧ s2.words ≤ 0 ∧ s2.ops ≤ 4 ∧ PenAt (t + (400 + 500 * m)) p M' ∧ Kp (N1 p) M M' := fun w hw hne => by
        subst hw
        obtain ⟨s2, M5, e5, o5, t5, w5, p5, c5, k5⟩ := ih0 c4 (by omega)
        have hn : ∀ M, dEq (.str w) (.str "neither") M = .ok (.bl false) M := fun M => by rw [eq_str]; simp [hne]
        refine ⟨s2, M5, ?_, o5, by omega, by omega, by omega, c5.mono (by omega), kk.trans k5⟩
        have e5' : self [.loc p, .int 0] M4 = .ok s2.enc M5 := e5
        simp only [L_stated, bind_ok, bind_ex, outE_ok, outE_ex, retF_nx, retF_rt, retF_xc, x_optR, x_eV, x_eC, x_kB, x_eB, x_eU, x_eF, x_kM, x_eM, x_ift, x_iff, x_eIf, x_kTup, x_kLst, x_eTup, x_eLst, x_aN, x_kCc, x_kC, x_aC, x_tV, x_kCn, x_kCm, x_tCm, x_okB, x_tA, x_tO, x_kN, x_tN, x_tCh, x_kCj, x_kCi, x_kCh, x_eCh, x_kNb, x_kAn, x_kOr, x_kNo, x_eAnd, x_eOr, x_eNot, x_kCl, x_eCall, x_kS2, x_kS1, x_eSl, x_oN, x_asO, x_oS, x_mLoc, x_kML, x_eML, x_kM0, x_kMl0, x_eML0, x_truB, x_truI, x_asB, x_cnx, x_crt, x_cbk, x_cct, x_cxc, x_sSeq, x_sNil, x_sBrk, x_sCnt, x_kEx, x_kSet, x_sEx, x_sSet, x_okO, x_putsN, x_putsC, x_kPar, x_sPar, x_kRet, x_sRet, x_sRetN, x_sIf, x_kSb3, x_kSb2, x_kSb1, x_sSub, x_kAsg, x_sAsg, x_pnm, x_ptp, x_kFor, x_sFor, x_itT, x_iR1, x_kR2, x_iR2, x_iE, x_tY, x_wN, x_wC, List.getElem?_cons_zero, List.getElem?_cons_succ, List.set_cons_zero, List.set_cons_succ, List.append_nil, List.nil_append, List.cons_append, List.length_cons, List.length_nil, Nat.reduceLeDiff, Nat.reduceAdd, Bool.not_true, Bool.not_false, T_ok, x_kMt, x_sMt, x_mtN, x_mtC, x_sWh, true_or, true_and, and_true, if_true, if_false, hz, e2, hz2, e3, hn, hs, e4, e5']
      rcases m3 with rfl | rfl | rfl | rfl
      · obtain ⟨s2, M5, e5, o5, t5, w5, p5, c5, k5⟩ := two "both" rfl (by decide)
        exact ⟨.bo s s2, M5, e5, ⟨o4, o5⟩, by simp only [Sta.tests]; omega, by simp only [Sta.words]; omega, by simp only [Sta.ops]; omega, c5, k5⟩
      · obtain ⟨s2, M5, e5, o5, t5, w5, p5, c5, k5⟩ := two "both" rfl (by decide)
        exact ⟨.bo s s2, M5, e5, ⟨o4, o5⟩, by simp only [Sta.tests]; omega, by simp only [Sta.words]; omega, by simp only [Sta.ops]; omega, c5, k5⟩
      · obtain ⟨s2, M5, e5, o5, t5, w5, p5, c5, k5⟩ := two "either" rfl (by decide)
        exact ⟨.ei s s2, M5, e5, ⟨o4, o5⟩, by simp only [Sta.tests]; omega, by simp only [Sta.words]; omega, by simp only [Sta.ops]; omega, c5, k5⟩
      · have hn : ∀ M, dEq (.str "neither") (.str "neither") M = .ok (.bl true) M := fun _ => rfl
        refine ⟨.ne s, M4, ?_, o4, by simp only [Sta.tests]; omega, by simp only [Sta.words]; omega, by simp only [Sta.ops]; omega, c4.mono (by omega), kk⟩
        simp only [L_stated, bind_ok, bind_ex, outE_ok, outE_ex, retF_nx, retF_rt, retF_xc, x_optR, x_eV, x_eC, x_kB, x_eB, x_eU, x_eF, x_kM, x_eM, x_ift, x_iff, x_eIf, x_kTup, x_kLst, x_eTup, x_eLst, x_aN, x_kCc, x_kC, x_aC, x_tV, x_kCn, x_kCm, x_tCm, x_okB, x_tA, x_tO, x_kN, x_tN, x_tCh, x_kCj, x_kCi, x_kCh, x_eCh, x_kNb, x_kAn, x_kOr, x_kNo, x_eAnd, x_eOr, x_eNot, x_kCl, x_eCall, x_kS2, x_kS1, x_eSl, x_oN, x_asO, x_oS, x_mLoc, x_kML, x_eML, x_kM0, x_kMl0, x_eML0, x_truB, x_truI, x_asB, x_cnx, x_crt, x_cbk, x_cct, x_cxc, x_sSeq, x_sNil, x_sBrk, x_sCnt, x_kEx, x_kSet, x_sEx, x_sSet, x_okO, x_putsN, x_putsC, x_kPar, x_sPar, x_kRet, x_sRet, x_sRetN, x_sIf, x_kSb3, x_kSb2, x_kSb1, x_sSub, x_kAsg, x_sAsg, x_pnm, x_ptp, x_kFor, x_sFor, x_itT, x_iR1, x_kR2, x_iR2, x_iE, x_tY, x_wN, x_wC, List.getElem?_cons_zero, List.getElem?_cons_succ, List.set_cons_zero, List.set_cons_succ, List.append_nil, List.nil_append, List.cons_append, List.length_cons, List.length_nil, Nat.reduceLeDiff, Nat.reduceAdd, Bool.not_true, Bool.not_false, T_ok, x_kMt, x_sMt, x_mtN, x_mtC, x_sWh, true_or, true_and, and_true, if_true, if_false, hz, e2, hz2, e3, hn, hs, e4, Sta.enc]
theorem stated_run {run : Nat → Nat → Fn} {i j g o l d : Nat} (hd : ∀ k, IsDraw (run (k + d) j)) (hp : ∀ k, IsPick (run (k + d) g)) (ho : ∀ k, SDraw (run (k + d) o)) (hl : ∀ k, SDraw (run (k + d) l)) (h : ∀ k a b M, run (k + 1) i [a, b] M = retF (L_stated (run k j) (run k g) (run k o) (run k l) (run k i) [some a, some b, none] M)) :
    ∀ (n m k : Nat), m ≤ n → n ≤ 100 → Stated (run (k + n + d + 1) i) m
  | 0, m, k, hm, hn => stated_step (hd (k + 0)) (hp _) (ho _) (hl _) (h _) (by omega) fun hj => absurd hj (by omega)
  | n + 1, m, k, hm, hn => stated_step (hd (k + (n + 1))) (hp _) (ho _) (hl _) (h _) (by omega) fun hj => by
    rw [show k + (n + 1) + d = k + n + d + 1 by omega]
    exact ⟨stated_run hd hp ho hl h n (m - 1) k (by omega) (by omega), stated_run hd hp ho hl h n 0 k (by omega) (by omega)⟩
end G

/-! X14: statements judged by the program: is_statement, plan_of, judged. -/
namespace G
open PySem L2
abbrev tsts : D := .tup [.str "equal", .str "below", .str "less"]
def Sta.kids : Sta → List Sta
  | .tst _ _ _ => []
  | .bo s t => [s, t]
  | .ei s t => [s, t]
  | .ne s => [s]
def Sta.isT : Sta → Bool
  | .tst _ _ _ => true
  | _ => false
def Sta.word : Sta → Str
  | .tst w _ _ => w.word
  | .bo _ _ => "both"
  | .ei _ _ => "either"
  | .ne _ => "neither"
def Sta.size : Sta → Nat
  | .tst _ _ _ => 1
  | .bo s t => 1 + s.size + t.size
  | .ei s t => 1 + s.size + t.size
  | .ne s => 1 + s.size
def sizeL (l : List Sta) : Nat := (l.map Sta.size).sum
theorem sizeL_append (a b : List Sta) : sizeL (a ++ b) = sizeL a + sizeL b := by simp [sizeL]
theorem Sta.size_pos (s : Sta) : 1 ≤ s.size := by cases s <;> simp only [Sta.size] <;> omega
theorem Sta.size_kids (s : Sta) : s.size = 1 + sizeL s.kids := by cases s <;> simp [Sta.size, Sta.kids, sizeL] <;> omega
theorem len_sizeL (l : List Sta) : l.length ≤ sizeL l := by
  induction l with
  | nil => exact Nat.le_refl _
  | cons a l ih =>
    have := a.size_pos
    have e : sizeL (a :: l) = a.size + sizeL l := by simp [sizeL]
    simp only [List.length_cons]; omega
theorem Sta.size_tw (s : Sta) : s.size = s.tests + s.words := by induction s <;> simp only [Sta.size, Sta.tests, Sta.words, *] <;> omega
/-- the word of a statement, and its parts -/
theorem Sta.enc_head (s : Sta) : ∃ r, s.enc = .tup (.str s.word :: r) ∧ (s.isT = false → r = s.kids.map Sta.enc) := by
  cases s <;> exact ⟨_, rfl, fun h => by first | rfl | cases h⟩
theorem in_tsts (s : Sta) (M : Mem) : dIn false (.str s.word) tsts M = .ok (.bl s.isT) M ∧ dIn true (.str s.word) tsts M = .ok (.bl (!s.isT)) M := by
  cases s with
  | tst w a b => cases w <;> exact ⟨rfl, rfl⟩
  | _ => exact ⟨rfl, rfl⟩
theorem ix_word (s : Sta) (M : Mem) : dIx s.enc (.int 0) M = .ok (.str s.word) M := by
  obtain ⟨r, e, _⟩ := s.enc_head
  rw [e]; exact ixa
/-! ### is_statement -/
def L_opsin (cf : Fn) : LS :=
  (sSeq (sIf ((tO (tCm (dIn true) (eB dIx (eV 0) (eC (.int 0))) (eC tsts)) (tCm dNe (eF bLen (aC (eV 0) aN)) (eC (.int 3)))))
  (sRet (eC .non))
  sNil)
  (sSeq (sSet 1 (eLc (iE (eSl (eV 0) (oS (eC (.int 1))) oN)) (.nm 2) tY (eCall cf [] (aC (eV 2) (aC (eC (.int 10)) aN))) [2]))
  (sRet (eIf (tCm (dIn false) (eC .non) (eV 1)) (eC .non) (eF bSum (aC (eV 1) aN))))))
def L_joined : LS :=
  (sRet ((eOr ((eAnd (eB (dIn false) (eB dIx (eV 0) (eC (.int 0))) (eTup (aC (eC (.str "both")) (aC (eC (.str "either")) aN)))) (eB dEq (eF bLen (aC (eV 0) aN)) (eC (.int 3))))) ((eAnd (eB dEq (eB dIx (eV 0) (eC (.int 0))) (eC (.str "neither"))) (eB dEq (eF bLen (aC (eV 0) aN)) (eC (.int 2))))))))
/-- counted on expressions -/
def CountE (f : Fn) : Prop := ∀ {e : Ex} {M : Mem}, e.ok → e.ops ≤ 10 → ∃ M', f [e.enc, .int 10] M = .ok (.int (e.ops : Nat)) M' ∧ Kp N0 M M'
theorem countE {f pf : Fn} (hp : IsParts pf) (h : ∀ d g M, f [d, g] M = retF (L_counted pf [some d, some g, none, none, none] M)) : CountE f := fun {e M} ho hm => counted_ok hp h ho hm (by decide)
def OpsinS (f : Fn) : Prop := ∀ {s : Sta} {M : Mem}, s.ok 10 → ∃ M', f [s.enc] M = .ok (if s.isT = true then .int (s.ops : Nat) else .non) M' ∧ Kp N0 M M'
theorem sl_t3 {a b c : D} {M : Mem} : dSl (.tup [a, b, c]) (some 1) none M = .ok (.tup [b, c]) M := rfl
theorem sl_t2 {a b : D} {M : Mem} : dSl (.tup [a, b]) (some 1) none M = .ok (.tup [b]) M := rfl
theorem opsinS {f cf : Fn} (hc : CountE cf) (h : ∀ d M, f [d] M = retF (L_opsin cf [some d, none, none] M)) : OpsinS f := fun {s M} ho => by
  rw [h]
  have w1 := fun M => (in_tsts s M).2
  have w2 := ix_word s
  cases q : s.isT with
  | false =>
    rw [q] at w1
    refine ⟨M, ?_, Kp.refl _⟩
    simp only [L_opsin, bind_ok, bind_ex, outE_ok, outE_ex, retF_nx, retF_rt, retF_xc, x_optR, x_eV, x_eC, x_kB, x_eB, x_eU, x_eF, x_kM, x_eM, x_ift, x_iff, x_eIf, x_kTup, x_kLst, x_eTup, x_eLst, x_aN, x_kCc, x_kC, x_aC, x_tV, x_kCn, x_kCm, x_tCm, x_okB, x_tA, x_tO, x_kN, x_tN, x_tCh, x_kCj, x_kCi, x_kCh, x_eCh, x_kNb, x_kAn, x_kOr, x_kNo, x_eAnd, x_eOr, x_eNot, x_kCl, x_eCall, x_kS2, x_kS1, x_eSl, x_oN, x_asO, x_oS, x_mLoc, x_kML, x_eML, x_kM0, x_kMl0, x_eML0, x_truB, x_truI, x_asB, x_cnx, x_crt, x_cbk, x_cct, x_cxc, x_sSeq, x_sNil, x_sBrk, x_sCnt, x_kEx, x_kSet, x_sEx, x_sSet, x_okO, x_putsN, x_putsC, x_kPar, x_sPar, x_kRet, x_sRet, x_sRetN, x_sIf, x_kSb3, x_kSb2, x_kSb1, x_sSub, x_kAsg, x_sAsg, x_pnm, x_ptp, x_kFor, x_sFor, x_itT, x_iR1, x_kR2, x_iR2, x_iE, x_tY, x_wN, x_wC, List.getElem?_cons_zero, List.getElem?_cons_succ, List.set_cons_zero, List.set_cons_succ, List.append_nil, List.nil_append, List.cons_append, List.length_cons, List.length_nil, Nat.reduceLeDiff, Nat.reduceAdd, Bool.not_true, Bool.not_false, T_ok, x_kMt, x_sMt, x_mtN, x_mtC, x_sWh, true_or, true_and, and_true, if_true, if_false, w2, w1, Bool.not_false]
    rfl
  | true =>
    rw [q] at w1
    match s, q with
    | .tst w a b, _ =>
      have l1 : ∀ M, bLen [(Sta.tst w a b).enc] M = .ok (.int 3) M := fun _ => rfl
      have n33 : ∀ M, dNe (.int 3) (.int 3) M = .ok (.bl false) M := fun _ => rfl
      have hok : ∀ e ∈ [a, b], e.ok ∧ e.ops ≤ 10 := by
        intro e m
        simp only [List.mem_cons, List.not_mem_nil, or_false] at m
        rcases m with rfl | rfl
        · exact ho.1
        · exact ho.2
      have hsl : ∀ M, dSl (Sta.tst w a b).enc (some 1) none M = .ok (.tup [a.enc, b.enc]) M := fun _ => rfl
      obtain ⟨acc, M', e2, g1, g2, g3, g4⟩ := lc_gen (S := N0) (it := (iE (eSl (eV 0) (oS (eC (.int 1))) oN))) (v := .tup [a.enc, b.enc]) (ds := [a.enc, b.enc]) (j := 2) (te := eCall cf [] (aC (eV 2) (aC (eC (.int 10)) aN))) (vs := [2]) (L := [some (Sta.tst w a b).enc, none, none]) (M := M) (M0 := M)
        (fun i acc M' => acc = ([a, b].take i).map fun e => D.int (e.ops : Nat)) (by simp only [bind_ok, bind_ex, outE_ok, outE_ex, retF_nx, retF_rt, retF_xc, x_optR, x_eV, x_eC, x_kB, x_eB, x_eU, x_eF, x_kM, x_eM, x_ift, x_iff, x_eIf, x_kTup, x_kLst, x_eTup, x_eLst, x_aN, x_kCc, x_kC, x_aC, x_tV, x_kCn, x_kCm, x_tCm, x_okB, x_tA, x_tO, x_kN, x_tN, x_tCh, x_kCj, x_kCi, x_kCh, x_eCh, x_kNb, x_kAn, x_kOr, x_kNo, x_eAnd, x_eOr, x_eNot, x_kCl, x_eCall, x_kS2, x_kS1, x_eSl, x_oN, x_asO, x_oS, x_mLoc, x_kML, x_eML, x_kM0, x_kMl0, x_eML0, x_truB, x_truI, x_asB, x_cnx, x_crt, x_cbk, x_cct, x_cxc, x_sSeq, x_sNil, x_sBrk, x_sCnt, x_kEx, x_kSet, x_sEx, x_sSet, x_okO, x_putsN, x_putsC, x_kPar, x_sPar, x_kRet, x_sRet, x_sRetN, x_sIf, x_kSb3, x_kSb2, x_kSb1, x_sSub, x_kAsg, x_sAsg, x_pnm, x_ptp, x_kFor, x_sFor, x_itT, x_iR1, x_kR2, x_iR2, x_iE, x_tY, x_wN, x_wC, List.getElem?_cons_zero, List.getElem?_cons_succ, List.set_cons_zero, List.set_cons_succ, List.append_nil, List.nil_append, List.cons_append, List.length_cons, List.length_nil, Nat.reduceLeDiff, Nat.reduceAdd, Bool.not_true, Bool.not_false, T_ok, x_kMt, x_sMt, x_mtN, x_mtC, x_sWh, true_or, true_and, and_true, if_true, if_false, hsl, itD]) Iw.tup rfl (show (2 : Nat) ≤ big by decide)
        (fun i acc M' d hd hla hP kk hcm => by
          have hm : ([a, b].map Ex.enc)[i]? = some d := hd
          rw [List.getElem?_map] at hm
          cases he : [a, b][i]? with
          | none => rw [he] at hm; cases hm
          | some e =>
            rw [he] at hm
            cases hm
            obtain ⟨M2, e1, k1⟩ := hc (M := M') (hok e (List.mem_of_getElem? he)).1 (hok e (List.mem_of_getElem? he)).2
            refine ⟨.int (e.ops : Nat), M2, by simp only [bind_ok, bind_ex, outE_ok, outE_ex, retF_nx, retF_rt, retF_xc, x_optR, x_eV, x_eC, x_kB, x_eB, x_eU, x_eF, x_kM, x_eM, x_ift, x_iff, x_eIf, x_kTup, x_kLst, x_eTup, x_eLst, x_aN, x_kCc, x_kC, x_aC, x_tV, x_kCn, x_kCm, x_tCm, x_okB, x_tA, x_tO, x_kN, x_tN, x_tCh, x_kCj, x_kCi, x_kCh, x_eCh, x_kNb, x_kAn, x_kOr, x_kNo, x_eAnd, x_eOr, x_eNot, x_kCl, x_eCall, x_kS2, x_kS1, x_eSl, x_oN, x_asO, x_oS, x_mLoc, x_kML, x_eML, x_kM0, x_kMl0, x_eML0, x_truB, x_truI, x_asB, x_cnx, x_crt, x_cbk, x_cct, x_cxc, x_sSeq, x_sNil, x_sBrk, x_sCnt, x_kEx, x_kSet, x_sEx, x_sSet, x_okO, x_putsN, x_putsC, x_kPar, x_sPar, x_kRet, x_sRet, x_sRetN, x_sIf, x_kSb3, x_kSb2, x_kSb1, x_sSub, x_kAsg, x_sAsg, x_pnm, x_ptp, x_kFor, x_sFor, x_itT, x_iR1, x_kR2, x_iR2, x_iE, x_tY, x_wN, x_wC, List.getElem?_cons_zero, List.getElem?_cons_succ, List.set_cons_zero, List.set_cons_succ, List.append_nil, List.nil_append, List.cons_append, List.length_cons, List.length_nil, Nat.reduceLeDiff, Nat.reduceAdd, Bool.not_true, Bool.not_false, T_ok, x_kMt, x_sMt, x_mtN, x_mtC, x_sWh, true_or, true_and, and_true, if_true, if_false, e1], kk.trans k1, k1.at hcm id, ?_⟩
            rw [hP, List.take_add_one, he, List.map_append]; rfl)
      have e4 : (([a, b].take [a.enc, b.enc].length).map fun e => D.int (e.ops : Nat)) = [.int (a.ops : Nat), .int (b.ops : Nat)] := rfl
      rw [e4] at g1
      subst g1
      have hin : dIn false .non (.loc M.length) M' = .ok (.bl false) M' := by
        simp only [dIn, itemsD, g3, O.items]; rfl
      have hs : bSum [.loc M.length] M' = .ok (.int ((a.ops : Nat) + ((b.ops : Nat) + 0))) M' := by
        simp only [bSum, locD, g3, O.items, Option.bind_some]; rfl
      refine ⟨M', ?_, g4⟩
      simp only [L_opsin, bind_ok, bind_ex, outE_ok, outE_ex, retF_nx, retF_rt, retF_xc, x_optR, x_eV, x_eC, x_kB, x_eB, x_eU, x_eF, x_kM, x_eM, x_ift, x_iff, x_eIf, x_kTup, x_kLst, x_eTup, x_eLst, x_aN, x_kCc, x_kC, x_aC, x_tV, x_kCn, x_kCm, x_tCm, x_okB, x_tA, x_tO, x_kN, x_tN, x_tCh, x_kCj, x_kCi, x_kCh, x_eCh, x_kNb, x_kAn, x_kOr, x_kNo, x_eAnd, x_eOr, x_eNot, x_kCl, x_eCall, x_kS2, x_kS1, x_eSl, x_oN, x_asO, x_oS, x_mLoc, x_kML, x_eML, x_kM0, x_kMl0, x_eML0, x_truB, x_truI, x_asB, x_cnx, x_crt, x_cbk, x_cct, x_cxc, x_sSeq, x_sNil, x_sBrk, x_sCnt, x_kEx, x_kSet, x_sEx, x_sSet, x_okO, x_putsN, x_putsC, x_kPar, x_sPar, x_kRet, x_sRet, x_sRetN, x_sIf, x_kSb3, x_kSb2, x_kSb1, x_sSub, x_kAsg, x_sAsg, x_pnm, x_ptp, x_kFor, x_sFor, x_itT, x_iR1, x_kR2, x_iR2, x_iE, x_tY, x_wN, x_wC, List.getElem?_cons_zero, List.getElem?_cons_succ, List.set_cons_zero, List.set_cons_succ, List.append_nil, List.nil_append, List.cons_append, List.length_cons, List.length_nil, Nat.reduceLeDiff, Nat.reduceAdd, Bool.not_true, Bool.not_false, T_ok, x_kMt, x_sMt, x_mtN, x_mtC, x_sWh, true_or, true_and, and_true, if_true, if_false, w2, w1, Bool.not_true, l1, n33, e2, hin, hs, Sta.ops, Nat.add_zero, Int.add_zero]
      congr 2
def JoinS (f : Fn) : Prop := ∀ {s : Sta} {M : Mem}, s.isT = false → f [s.enc] M = .ok (.bl true) M
theorem joinS {f : Fn} (h : ∀ d M, f [d] M = retF (L_joined [some d] M)) : JoinS f := fun {s M} hs => by
  rw [h]
  match s, hs with
  | .bo s t, _ =>
    have a1 : ∀ M, dIn false (.str "both") (.tup [.str "both", .str "either"]) M = .ok (.bl true) M := fun _ => rfl
    have a2 : ∀ M, bLen [.tup [.str "both", s.enc, t.enc]] M = .ok (.int 3) M := fun _ => rfl
    have a3 : ∀ M, dEq (.int 3) (.int 3) M = .ok (.bl true) M := fun _ => rfl
    simp only [L_joined, Sta.enc, bind_ok, bind_ex, outE_ok, outE_ex, retF_nx, retF_rt, retF_xc, x_optR, x_eV, x_eC, x_kB, x_eB, x_eU, x_eF, x_kM, x_eM, x_ift, x_iff, x_eIf, x_kTup, x_kLst, x_eTup, x_eLst, x_aN, x_kCc, x_kC, x_aC, x_tV, x_kCn, x_kCm, x_tCm, x_okB, x_tA, x_tO, x_kN, x_tN, x_tCh, x_kCj, x_kCi, x_kCh, x_eCh, x_kNb, x_kAn, x_kOr, x_kNo, x_eAnd, x_eOr, x_eNot, x_kCl, x_eCall, x_kS2, x_kS1, x_eSl, x_oN, x_asO, x_oS, x_mLoc, x_kML, x_eML, x_kM0, x_kMl0, x_eML0, x_truB, x_truI, x_asB, x_cnx, x_crt, x_cbk, x_cct, x_cxc, x_sSeq, x_sNil, x_sBrk, x_sCnt, x_kEx, x_kSet, x_sEx, x_sSet, x_okO, x_putsN, x_putsC, x_kPar, x_sPar, x_kRet, x_sRet, x_sRetN, x_sIf, x_kSb3, x_kSb2, x_kSb1, x_sSub, x_kAsg, x_sAsg, x_pnm, x_ptp, x_kFor, x_sFor, x_itT, x_iR1, x_kR2, x_iR2, x_iE, x_tY, x_wN, x_wC, List.getElem?_cons_zero, List.getElem?_cons_succ, List.set_cons_zero, List.set_cons_succ, List.append_nil, List.nil_append, List.cons_append, List.length_cons, List.length_nil, Nat.reduceLeDiff, Nat.reduceAdd, Bool.not_true, Bool.not_false, T_ok, x_kMt, x_sMt, x_mtN, x_mtC, x_sWh, true_or, true_and, and_true, if_true, if_false, ixa, a1, a2, a3]
  | .ei s t, _ =>
    have a1 : ∀ M, dIn false (.str "either") (.tup [.str "both", .str "either"]) M = .ok (.bl true) M := fun _ => rfl
    have a2 : ∀ M, bLen [.tup [.str "either", s.enc, t.enc]] M = .ok (.int 3) M := fun _ => rfl
    have a3 : ∀ M, dEq (.int 3) (.int 3) M = .ok (.bl true) M := fun _ => rfl
    simp only [L_joined, Sta.enc, bind_ok, bind_ex, outE_ok, outE_ex, retF_nx, retF_rt, retF_xc, x_optR, x_eV, x_eC, x_kB, x_eB, x_eU, x_eF, x_kM, x_eM, x_ift, x_iff, x_eIf, x_kTup, x_kLst, x_eTup, x_eLst, x_aN, x_kCc, x_kC, x_aC, x_tV, x_kCn, x_kCm, x_tCm, x_okB, x_tA, x_tO, x_kN, x_tN, x_tCh, x_kCj, x_kCi, x_kCh, x_eCh, x_kNb, x_kAn, x_kOr, x_kNo, x_eAnd, x_eOr, x_eNot, x_kCl, x_eCall, x_kS2, x_kS1, x_eSl, x_oN, x_asO, x_oS, x_mLoc, x_kML, x_eML, x_kM0, x_kMl0, x_eML0, x_truB, x_truI, x_asB, x_cnx, x_crt, x_cbk, x_cct, x_cxc, x_sSeq, x_sNil, x_sBrk, x_sCnt, x_kEx, x_kSet, x_sEx, x_sSet, x_okO, x_putsN, x_putsC, x_kPar, x_sPar, x_kRet, x_sRet, x_sRetN, x_sIf, x_kSb3, x_kSb2, x_kSb1, x_sSub, x_kAsg, x_sAsg, x_pnm, x_ptp, x_kFor, x_sFor, x_itT, x_iR1, x_kR2, x_iR2, x_iE, x_tY, x_wN, x_wC, List.getElem?_cons_zero, List.getElem?_cons_succ, List.set_cons_zero, List.set_cons_succ, List.append_nil, List.nil_append, List.cons_append, List.length_cons, List.length_nil, Nat.reduceLeDiff, Nat.reduceAdd, Bool.not_true, Bool.not_false, T_ok, x_kMt, x_sMt, x_mtN, x_mtC, x_sWh, true_or, true_and, and_true, if_true, if_false, ixa, a1, a2, a3]
  | .ne s, _ =>
    have a1 : ∀ M, dIn false (.str "neither") (.tup [.str "both", .str "either"]) M = .ok (.bl false) M := fun _ => rfl
    have a2 : ∀ M, bLen [.tup [.str "neither", s.enc]] M = .ok (.int 2) M := fun _ => rfl
    have a3 : ∀ M, dEq (.int 2) (.int 2) M = .ok (.bl true) M := fun _ => rfl
    have a4 : ∀ M, dEq (.str "neither") (.str "neither") M = .ok (.bl true) M := fun _ => rfl
    simp only [L_joined, Sta.enc, bind_ok, bind_ex, outE_ok, outE_ex, retF_nx, retF_rt, retF_xc, x_optR, x_eV, x_eC, x_kB, x_eB, x_eU, x_eF, x_kM, x_eM, x_ift, x_iff, x_eIf, x_kTup, x_kLst, x_eTup, x_eLst, x_aN, x_kCc, x_kC, x_aC, x_tV, x_kCn, x_kCm, x_tCm, x_okB, x_tA, x_tO, x_kN, x_tN, x_tCh, x_kCj, x_kCi, x_kCh, x_eCh, x_kNb, x_kAn, x_kOr, x_kNo, x_eAnd, x_eOr, x_eNot, x_kCl, x_eCall, x_kS2, x_kS1, x_eSl, x_oN, x_asO, x_oS, x_mLoc, x_kML, x_eML, x_kM0, x_kMl0, x_eML0, x_truB, x_truI, x_asB, x_cnx, x_crt, x_cbk, x_cct, x_cxc, x_sSeq, x_sNil, x_sBrk, x_sCnt, x_kEx, x_kSet, x_sEx, x_sSet, x_okO, x_putsN, x_putsC, x_kPar, x_sPar, x_kRet, x_sRet, x_sRetN, x_sIf, x_kSb3, x_kSb2, x_kSb1, x_sSub, x_kAsg, x_sAsg, x_pnm, x_ptp, x_kFor, x_sFor, x_itT, x_iR1, x_kR2, x_iR2, x_iE, x_tY, x_wN, x_wC, List.getElem?_cons_zero, List.getElem?_cons_succ, List.set_cons_zero, List.set_cons_succ, List.append_nil, List.nil_append, List.cons_append, List.length_cons, List.length_nil, Nat.reduceLeDiff, Nat.reduceAdd, Bool.not_true, Bool.not_false, T_ok, x_kMt, x_sMt, x_mtN, x_mtC, x_sWh, true_or, true_and, and_true, if_true, if_false, ixa, a1, a2, a3, a4]
theorem Sta.fit {n : Nat} {s : Sta} (h : s.ok n) : Fit (s.words + n + 2) (200 * (2 * n + 1) * s.tests + 60 * s.words) s.enc := by
  have i10 : ∀ (w : Str) k, (reprText w).length ≤ 10 → Fit k 10 (.str w) := fun w k h => (Fit.str h).mono (Nat.zero_le _) (Nat.le_refl _)
  induction s with
  | tst w a b =>
    have hw : (reprText w.word).length ≤ 10 := by cases w <;> decide +kernel
    have n1 := a.nodes_ops
    have n2 := b.nodes_ops
    have h1 := h.1.2
    have h2 := h.2.2
    exact ((FitS.cons (i10 _ (n + 1) hw) (FitS.cons ((a.fit h.1.1).mono (by omega) (Nat.le_refl _)) (FitS.cons ((b.fit h.2.1).mono (by omega) (Nat.le_refl _)) FitS.nil))).tup).mono (by simp only [Sta.words]; omega) (by simp only [Sta.words, Sta.tests, List.length_cons, List.length_nil]; omega)
  | bo s t ih1 ih2 =>
    have e : 200 * (2 * n + 1) * (s.tests + t.tests) = 200 * (2 * n + 1) * s.tests + 200 * (2 * n + 1) * t.tests := Nat.mul_add ..
    exact ((FitS.cons (i10 "both" (s.words + t.words + n + 2) (by decide +kernel)) (FitS.cons ((ih1 h.1).mono (by omega) (Nat.le_refl _)) (FitS.cons ((ih2 h.2).mono (by omega) (Nat.le_refl _)) FitS.nil))).tup).mono (by simp only [Sta.words]; omega) (by simp only [Sta.words, Sta.tests, List.length_cons, List.length_nil, e]; omega)
  | ei s t ih1 ih2 =>
    have e : 200 * (2 * n + 1) * (s.tests + t.tests) = 200 * (2 * n + 1) * s.tests + 200 * (2 * n + 1) * t.tests := Nat.mul_add ..
    exact ((FitS.cons (i10 "either" (s.words + t.words + n + 2) (by decide +kernel)) (FitS.cons ((ih1 h.1).mono (by omega) (Nat.le_refl _)) (FitS.cons ((ih2 h.2).mono (by omega) (Nat.le_refl _)) FitS.nil))).tup).mono (by simp only [Sta.words]; omega) (by simp only [Sta.words, Sta.tests, List.length_cons, List.length_nil, e]; omega)
  | ne s ih =>
    exact ((FitS.cons (i10 "neither" (s.words + n + 2) (by decide +kernel)) (FitS.cons ((ih h).mono (by omega) (Nat.le_refl _)) FitS.nil)).tup).mono (by simp only [Sta.words]; omega) (by simp only [Sta.words, Sta.tests, List.length_cons, List.length_nil]; omega)
theorem Sta.lay {n : Nat} {s : Sta} (h : s.ok n) : Lay (s.words + n + 2) s.enc := by
  induction s with
  | tst w a b =>
    have h1 := h.1.2
    have h2 := h.2.2
    exact ((Lays.cons ((Lay.str (by cases w <;> decide +kernel)).mono (Nat.zero_le _)) (Lays.cons (a.lay.mono (show _ ≤ n + 1 by omega)) (Lays.cons (b.lay.mono (by omega)) Lays.nil))).tup).mono (by simp only [Sta.words]; omega)
  | bo s t ih1 ih2 => exact ((Lays.cons ((Lay.str (by decide +kernel)).mono (Nat.zero_le _)) (Lays.cons ((ih1 h.1).mono (show _ ≤ s.words + t.words + n + 2 by omega)) (Lays.cons ((ih2 h.2).mono (by omega)) Lays.nil))).tup).mono (by simp only [Sta.words]; omega)
  | ei s t ih1 ih2 => exact ((Lays.cons ((Lay.str (by decide +kernel)).mono (Nat.zero_le _)) (Lays.cons ((ih1 h.1).mono (show _ ≤ s.words + t.words + n + 2 by omega)) (Lays.cons ((ih2 h.2).mono (by omega)) Lays.nil))).tup).mono (by simp only [Sta.words]; omega)
  | ne s ih => exact ((Lays.cons ((Lay.str (by decide +kernel)).mono (Nat.zero_le _)) (Lays.cons (ih h) Lays.nil)).tup).mono (by simp only [Sta.words]; omega)
end G

/-! X15: statements: is_statement, plan_of. -/
namespace G
open PySem L2
abbrev isB (oi ij : Fn) : LS := (sSeq (sSet 5 (eML0 mPop (eV 4)))
  (sSeq (sIf ((tO (tN (tV (eF (bIsi "tuple") (aC (eV 5) aN)))) (tO (tCm dEq (eV 5) (eTup aN)) (tN (tV (eF (bIsi "str") (aC (eB dIx (eV 5) (eC (.int 0))) aN)))))))
  (sRet (eC (.bl false)))
  sNil)
  (sSeq (sSet 6 (eCall oi [] (aC (eV 5) aN)))
  (sSeq (sIf ((tA (tCm dIsN (eV 6) (eC .non)) (tN (tV (eCall ij [] (aC (eV 5) aN))))))
  (sRet (eC (.bl false)))
  sNil)
  (sSeq (sIf (tCm dIsN (eV 6) (eC .non))
  (sSeq (sSet 2 (eB dAdd (eV 2) (eC (.int 1))))
  (sEx (eML mExt (eV 4) (aC (eF bList (aC (eSl (eV 5) (oS (eC (.int 1))) oN) aN)) aN))))
  (sSeq (sSet 1 (eB dAdd (eV 1) (eC (.int 1))))
  (sSet 3 (eB dAdd (eV 3) (eV 6)))))
  (sIf ((tO (tCm (dCmpI fun i j => decide (j < i)) (eV 1) (eC (.int 6))) (tO (tCm (dCmpI fun i j => decide (j < i)) (eV 2) (eC (.int 10))) (tCm (dCmpI fun i j => decide (j < i)) (eV 3) (eC (.int 20))))))
  (sRet (eC (.bl false)))
  sNil))))))
def L_isst (oi ij : Fn) : LS :=
  (sSeq (sAsg (.tp [1, 2, 3, 4]) (eTup (aC (eC (.int 0)) (aC (eC (.int 0)) (aC (eC (.int 0)) (aC (eLst (aC (eV 0) aN)) aN))))))
  (sSeq (sWh 1000000 (tCm dNe (eV 4) (eLst aN)) (isB oi ij))
  (sRet (eC (.bl true)))))
def testsL (l : List Sta) : Nat := (l.map Sta.tests).sum
def wordsL (l : List Sta) : Nat := (l.map Sta.words).sum
def opsS (l : List Sta) : Nat := (l.map Sta.ops).sum
theorem kids_sums (s : Sta) : s.tests = (if s.isT = true then 1 else 0) + testsL s.kids ∧ s.words = (if s.isT = true then 0 else 1) + wordsL s.kids ∧ s.ops = (if s.isT = true then s.ops else 0) + opsS s.kids := by
  cases s <;> simp [Sta.tests, Sta.words, Sta.ops, Sta.isT, Sta.kids, testsL, wordsL, opsS] <;> omega
theorem kids_ok {n : Nat} {s : Sta} (h : s.ok n) : ∀ t ∈ s.kids, t.ok n := by
  cases s with
  | tst w a b => exact nofun
  | bo s t => exact fun x m => by simp [Sta.kids] at m; rcases m with rfl | rfl; exact h.1; exact h.2
  | ei s t => exact fun x m => by simp [Sta.kids] at m; rcases m with rfl | rfl; exact h.1; exact h.2
  | ne s => exact fun x m => by simp [Sta.kids] at m; subst m; exact h
def IsStS (f : Fn) : Prop := ∀ {s : Sta} {M : Mem}, s.ok 10 → s.tests ≤ 6 → s.words ≤ 10 → s.ops ≤ 20 → ∃ M', f [s.enc] M = .ok (.bl true) M' ∧ Kp N0 M M'
theorem isi_sta (s : Sta) (M : Mem) : bIsi "tuple" [s.enc] M = .ok (.bl true) M ∧ dEq s.enc (.tup []) M = .ok (.bl false) M := by
  obtain ⟨r, e, _⟩ := s.enc_head
  rw [e]
  exact ⟨rfl, (eq_nilT (ds := .str s.word :: r)).1⟩
theorem last_or {α : Type} (l : List α) : l = [] ∨ ∃ l' a, l = l' ++ [a] := by
  rcases List.eq_nil_or_concat l with h | ⟨l', a, h⟩
  · exact .inl h
  · exact .inr ⟨l', a, by rw [h, List.concat_eq_append]⟩
theorem isStS {f oi ij : Fn} (ho : OpsinS oi) (hj : JoinS ij) (h : ∀ d M, f [d] M = retF (L_isst oi ij [some d, none, none, none, none, none, none] M)) : IsStS f := fun {s M} hok ht hw hp => by
  rw [h]
  have w := wh_R (c := (tCm dNe (eV 4) (eLst aN))) (b := isB oi ij)
    (fun m L M' => ∃ (a b c : Nat) (l : List Sta) (x5 x6 : Option D), L = [some s.enc, some (.int (a : Nat)), some (.int (b : Nat)), some (.int (c : Nat)), some (.loc M.length), x5, x6] ∧ M'[M.length]? = some (.lst (l.map Sta.enc)) ∧ (∀ t ∈ l, t.ok 10) ∧ a + testsL l = s.tests ∧ b + wordsL l = s.words ∧ c + opsS l = s.ops ∧ sizeL l = m ∧ m ≤ 100 ∧ Kp N0 M M')
    (fun r M' => Kp N0 M M' ∧ ∃ L, r = (.nx, L))
    (fun m L M' ⟨a, b, c, l, x5, x6, hL, hq, hl, ha, hb, hc, hm, hm9, hK⟩ => by
      subst hL
      have hne := (eq_nilL (M := M' ++ [.lst []]) ((Kp.push (S := N0) M' _).at hq id) (push_at M' _)).2
      simp only [bind_ok, bind_ex, outE_ok, outE_ex, retF_nx, retF_rt, retF_xc, x_optR, x_eV, x_eC, x_kB, x_eB, x_eU, x_eF, x_kM, x_eM, x_ift, x_iff, x_eIf, x_kTup, x_kLst, x_eTup, x_eLst, x_aN, x_kCc, x_kC, x_aC, x_tV, x_kCn, x_kCm, x_tCm, x_okB, x_tA, x_tO, x_kN, x_tN, x_tCh, x_kCj, x_kCi, x_kCh, x_eCh, x_kNb, x_kAn, x_kOr, x_kNo, x_eAnd, x_eOr, x_eNot, x_kCl, x_eCall, x_kS2, x_kS1, x_eSl, x_oN, x_asO, x_oS, x_mLoc, x_kML, x_eML, x_kM0, x_kMl0, x_eML0, x_truB, x_truI, x_asB, x_cnx, x_crt, x_cbk, x_cct, x_cxc, x_sSeq, x_sNil, x_sBrk, x_sCnt, x_kEx, x_kSet, x_sEx, x_sSet, x_okO, x_putsN, x_putsC, x_kPar, x_sPar, x_kRet, x_sRet, x_sRetN, x_sIf, x_kSb3, x_kSb2, x_kSb1, x_sSub, x_kAsg, x_sAsg, x_pnm, x_ptp, x_kFor, x_sFor, x_itT, x_iR1, x_kR2, x_iR2, x_iE, x_tY, x_wN, x_wC, List.getElem?_cons_zero, List.getElem?_cons_succ, List.set_cons_zero, List.set_cons_succ, List.append_nil, List.nil_append, List.cons_append, List.length_cons, List.length_nil, Nat.reduceLeDiff, Nat.reduceAdd, Bool.not_true, Bool.not_false, T_ok, x_kMt, x_sMt, x_mtN, x_mtC, x_sWh, true_or, true_and, and_true, if_true, if_false, hne]
      rcases last_or l with rfl | ⟨l, z, rfl⟩
      · exact .inr ⟨rfl, hK.pushn, _, rfl⟩
      · left
        refine ⟨by simp, ?_⟩
        have hq2 : (M' ++ [O.lst []])[M.length]? = some (.lst (l.map Sta.enc ++ [z.enc])) := (Kp.push (S := N0) M' _).at (by rw [hq, List.map_append]; rfl) id
        have hpop := pop_ok hq2
        have hq3 := set_at (o := O.lst (l.map Sta.enc)) (mem_lt hq2)
        have K1 : Kp N0 M ((M' ++ [O.lst []]).set M.length (.lst (l.map Sta.enc))) := (hK.pushn).setn (Nat.le_refl _)
        generalize (M' ++ [O.lst []]).set M.length (.lst (l.map Sta.enc)) = M2 at hpop hq3 K1
        have hz : z.ok 10 := hl z (by simp)
        have i1 := fun M => (isi_sta z M).1
        have i2 := fun M => (isi_sta z M).2
        have i3 := ix_word z
        have i4 : ∀ M, bIsi "str" [.str z.word] M = .ok (.bl true) M := fun _ => rfl
        obtain ⟨M3, e3, k3⟩ := ho (M := M2) hz
        obtain ⟨s1, s2, s3⟩ := kids_sums z
        have sz := z.size_kids
        have aT : testsL (l ++ [z]) = testsL l + z.tests := by simp [testsL]
        have aW : wordsL (l ++ [z]) = wordsL l + z.words := by simp [wordsL]
        have aO : opsS (l ++ [z]) = opsS l + z.ops := by simp [opsS]
        rw [sizeL_append] at hm
        have sz1 : sizeL [z] = z.size := by simp [sizeL]
        rw [aT] at ha
        rw [aW] at hb
        rw [aO] at hc
        have hll := len_sizeL l
        have hlk := len_sizeL z.kids
        have le6 : ∀ n : Nat, n ≤ 6 → decide ((6 : Int) < (n : Nat)) = false := fun n h => decide_eq_false (by omega)
        have le10 : ∀ n : Nat, n ≤ 10 → decide ((10 : Int) < (n : Nat)) = false := fun n h => decide_eq_false (by omega)
        have le20 : ∀ n : Nat, n ≤ 20 → decide ((20 : Int) < (n : Nat)) = false := fun n h => decide_eq_false (by omega)
        cases q : z.isT with
        | true =>
          rw [q] at e3 s1 s2 s3
          simp only [if_true] at e3 s1 s2
          have hkn : z.kids = [] := by cases z <;> first | rfl | cases q
          have n1 : ∀ M, dIsN (.int (z.ops : Nat)) .non M = .ok (.bl false) M := fun _ => rfl
          have a1 : ∀ M, dAdd (.int (a : Nat)) (.int 1) M = .ok (.int ((a + 1 : Nat) : Int)) M := fun _ => rfl
          have a2 : ∀ M, dAdd (.int (c : Nat)) (.int (z.ops : Nat)) M = .ok (.int ((c + z.ops : Nat) : Int)) M := fun _ => rfl
          rw [hkn] at s1 s2
          have t0 : testsL [] = 0 := rfl
          have w0 : wordsL [] = 0 := rfl
          have z0 : sizeL z.kids = 0 := by rw [hkn]; rfl
          simp only [bind_ok, bind_ex, outE_ok, outE_ex, retF_nx, retF_rt, retF_xc, x_optR, x_eV, x_eC, x_kB, x_eB, x_eU, x_eF, x_kM, x_eM, x_ift, x_iff, x_eIf, x_kTup, x_kLst, x_eTup, x_eLst, x_aN, x_kCc, x_kC, x_aC, x_tV, x_kCn, x_kCm, x_tCm, x_okB, x_tA, x_tO, x_kN, x_tN, x_tCh, x_kCj, x_kCi, x_kCh, x_eCh, x_kNb, x_kAn, x_kOr, x_kNo, x_eAnd, x_eOr, x_eNot, x_kCl, x_eCall, x_kS2, x_kS1, x_eSl, x_oN, x_asO, x_oS, x_mLoc, x_kML, x_eML, x_kM0, x_kMl0, x_eML0, x_truB, x_truI, x_asB, x_cnx, x_crt, x_cbk, x_cct, x_cxc, x_sSeq, x_sNil, x_sBrk, x_sCnt, x_kEx, x_kSet, x_sEx, x_sSet, x_okO, x_putsN, x_putsC, x_kPar, x_sPar, x_kRet, x_sRet, x_sRetN, x_sIf, x_kSb3, x_kSb2, x_kSb1, x_sSub, x_kAsg, x_sAsg, x_pnm, x_ptp, x_kFor, x_sFor, x_itT, x_iR1, x_kR2, x_iR2, x_iE, x_tY, x_wN, x_wC, List.getElem?_cons_zero, List.getElem?_cons_succ, List.set_cons_zero, List.set_cons_succ, List.append_nil, List.nil_append, List.cons_append, List.length_cons, List.length_nil, Nat.reduceLeDiff, Nat.reduceAdd, Bool.not_true, Bool.not_false, T_ok, x_kMt, x_sMt, x_mtN, x_mtC, x_sWh, true_or, true_and, and_true, if_true, if_false, hpop, i1, i2, i3, i4, e3, n1, a1, a2, dCmpI, le6 (a + 1) (by omega), le10 b (by omega), le20 (c + z.ops) (by omega)]
          exact .inl ⟨sizeL l, by omega, a + 1, b, c + z.ops, l, _, _, rfl, k3.at hq3 id, fun t m => hl t (by simp [m]), by omega, by omega, by omega, rfl, by omega, K1.trans k3⟩
        | false =>
          rw [q] at e3 s1 s2 s3
          simp only [Bool.false_eq_true, if_false, Nat.zero_add] at e3 s1 s2 s3
          obtain ⟨r, hr1, hr2⟩ := z.enc_head
          have hr := hr2 q
          have n1 : ∀ M, dIsN .non .non M = .ok (.bl true) M := fun _ => rfl
          have j1 := fun M => hj (s := z) (M := M) q
          have a1 : ∀ M, dAdd (.int (b : Nat)) (.int 1) M = .ok (.int ((b + 1 : Nat) : Int)) M := fun _ => rfl
          have sl : ∀ M, dSl z.enc (some 1) none M = .ok (.tup (z.kids.map Sta.enc)) M := fun M => by rw [hr1, hr]; exact sl_tl
          have hx := (Kp.push (S := N0) M3 (O.lst (z.kids.map Sta.enc))).at (k3.at hq3 id) id
          have hbl : (l.map Sta.enc).length + (z.kids.map Sta.enc).length ≤ big := by rw [List.length_map, List.length_map]; exact Nat.le_trans (show _ ≤ 1000 by omega) (by decide)
          simp only [bind_ok, bind_ex, outE_ok, outE_ex, retF_nx, retF_rt, retF_xc, x_optR, x_eV, x_eC, x_kB, x_eB, x_eU, x_eF, x_kM, x_eM, x_ift, x_iff, x_eIf, x_kTup, x_kLst, x_eTup, x_eLst, x_aN, x_kCc, x_kC, x_aC, x_tV, x_kCn, x_kCm, x_tCm, x_okB, x_tA, x_tO, x_kN, x_tN, x_tCh, x_kCj, x_kCi, x_kCh, x_eCh, x_kNb, x_kAn, x_kOr, x_kNo, x_eAnd, x_eOr, x_eNot, x_kCl, x_eCall, x_kS2, x_kS1, x_eSl, x_oN, x_asO, x_oS, x_mLoc, x_kML, x_eML, x_kM0, x_kMl0, x_eML0, x_truB, x_truI, x_asB, x_cnx, x_crt, x_cbk, x_cct, x_cxc, x_sSeq, x_sNil, x_sBrk, x_sCnt, x_kEx, x_kSet, x_sEx, x_sSet, x_okO, x_putsN, x_putsC, x_kPar, x_sPar, x_kRet, x_sRet, x_sRetN, x_sIf, x_kSb3, x_kSb2, x_kSb1, x_sSub, x_kAsg, x_sAsg, x_pnm, x_ptp, x_kFor, x_sFor, x_itT, x_iR1, x_kR2, x_iR2, x_iE, x_tY, x_wN, x_wC, List.getElem?_cons_zero, List.getElem?_cons_succ, List.set_cons_zero, List.set_cons_succ, List.append_nil, List.nil_append, List.cons_append, List.length_cons, List.length_nil, Nat.reduceLeDiff, Nat.reduceAdd, Bool.not_true, Bool.not_false, T_ok, x_kMt, x_sMt, x_mtN, x_mtC, x_sWh, true_or, true_and, and_true, if_true, if_false, hpop, i1, i2, i3, i4, e3, n1, j1, a1, sl, list_tup, ext_ok hx (push_at _ _) hbl, dCmpI, le6 a (by omega), le10 (b + 1) (by omega), le20 c (by omega)]
          refine .inl ⟨sizeL (l ++ z.kids), by rw [sizeL_append]; omega, a, b + 1, c, l ++ z.kids, _, _, rfl, by rw [set_at (mem_lt hx), List.map_append], ?_, ?_, ?_, ?_, rfl, by rw [sizeL_append]; omega, ((K1.trans k3).pushn).setn (Nat.le_refl _)⟩
          · intro t m
            rcases List.mem_append.mp m with m | m
            · exact hl t (by simp [m])
            · exact kids_ok hz t m
          · have : testsL (l ++ z.kids) = testsL l + testsL z.kids := by simp [testsL]
            omega
          · have : wordsL (l ++ z.kids) = wordsL l + wordsL z.kids := by simp [wordsL]
            omega
          · have : opsS (l ++ z.kids) = opsS l + opsS z.kids := by simp [opsS]
            omega)
    1000000 s.size [some s.enc, some (.int (0 : Nat)), some (.int (0 : Nat)), some (.int (0 : Nat)), some (.loc M.length), none, none] (M ++ [.lst [s.enc]])
    ⟨0, 0, 0, [s], none, none, rfl, push_at _ _, by simpa using hok, by simp [testsL], by simp [wordsL], by simp [opsS], by simp [sizeL], by rw [s.size_tw]; omega, Kp.push _ _⟩ (by rw [s.size_tw]; omega)
  obtain ⟨r, M', e, k, L, rfl⟩ := w.get
  simp only [Int.natCast_zero] at e
  refine ⟨M', ?_, k⟩
  simp only [L_isst, bind_ok, bind_ex, outE_ok, outE_ex, retF_nx, retF_rt, retF_xc, x_optR, x_eV, x_eC, x_kB, x_eB, x_eU, x_eF, x_kM, x_eM, x_ift, x_iff, x_eIf, x_kTup, x_kLst, x_eTup, x_eLst, x_aN, x_kCc, x_kC, x_aC, x_tV, x_kCn, x_kCm, x_tCm, x_okB, x_tA, x_tO, x_kN, x_tN, x_tCh, x_kCj, x_kCi, x_kCh, x_eCh, x_kNb, x_kAn, x_kOr, x_kNo, x_eAnd, x_eOr, x_eNot, x_kCl, x_eCall, x_kS2, x_kS1, x_eSl, x_oN, x_asO, x_oS, x_mLoc, x_kML, x_eML, x_kM0, x_kMl0, x_eML0, x_truB, x_truI, x_asB, x_cnx, x_crt, x_cbk, x_cct, x_cxc, x_sSeq, x_sNil, x_sBrk, x_sCnt, x_kEx, x_kSet, x_sEx, x_sSet, x_okO, x_putsN, x_putsC, x_kPar, x_sPar, x_kRet, x_sRet, x_sRetN, x_sIf, x_kSb3, x_kSb2, x_kSb1, x_sSub, x_kAsg, x_sAsg, x_pnm, x_ptp, x_kFor, x_sFor, x_itT, x_iR1, x_kR2, x_iR2, x_iE, x_tY, x_wN, x_wC, List.getElem?_cons_zero, List.getElem?_cons_succ, List.set_cons_zero, List.set_cons_succ, List.append_nil, List.nil_append, List.cons_append, List.length_cons, List.length_nil, Nat.reduceLeDiff, Nat.reduceAdd, Bool.not_true, Bool.not_false, T_ok, x_kMt, x_sMt, x_mtN, x_mtC, x_sWh, true_or, true_and, and_true, if_true, if_false, e]
end G

/-! X16: statements: plan_of, judged. -/
namespace G
open PySem L2
/-! ### the plan -/
def Sta.pre : Sta → List Sta
  | .tst w a b => [.tst w a b]
  | .bo s t => .bo s t :: (t.pre ++ s.pre)
  | .ei s t => .ei s t :: (t.pre ++ s.pre)
  | .ne s => .ne s :: s.pre
def restL (l : List Sta) : List Sta := (l.reverse.map Sta.pre).flatten
theorem restL_snoc (l : List Sta) (s : Sta) : restL (l ++ [s]) = s.pre ++ restL l := by simp [restL]
theorem pre_kids (s : Sta) : s.pre = s :: restL s.kids := by cases s <;> simp [Sta.pre, Sta.kids, restL]
theorem restL_append (a b : List Sta) : restL (a ++ b) = restL b ++ restL a := by simp [restL]
def Sta.post : Sta → List Sta
  | .tst w a b => [.tst w a b]
  | .bo s t => s.post ++ t.post ++ [.bo s t]
  | .ei s t => s.post ++ t.post ++ [.ei s t]
  | .ne s => s.post ++ [.ne s]
theorem pre_post (s : Sta) : s.pre.reverse = s.post := by induction s <;> simp [Sta.pre, Sta.post, *]
theorem pre_len (s : Sta) : s.pre.length = s.size := by induction s <;> simp [Sta.pre, Sta.size, *] <;> omega
def L_plan : LS :=
  (sSeq (sPar [1, 2] (aC (eLst aN) (aC (eLst (aC (eV 0) aN)) aN)))
  (sSeq (sWh 1000000 (tCm dNe (eV 2) (eLst aN))
  (sSeq (sSet 3 (eML0 mPop (eV 2)))
  (sSeq (sEx (eML mApp (eV 1) (aC (eV 3) aN)))
  (sIf (tCm (dIn true) (eB dIx (eV 3) (eC (.int 0))) (eC tsts))
  (sEx (eML mExt (eV 2) (aC (eF bList (aC (eSl (eV 3) (oS (eC (.int 1))) oN) aN)) aN)))
  sNil))))
  (sRet (eU dRev (eV 1)))))
def PlanOf (f : Fn) : Prop := ∀ {s : Sta} {M : Mem}, s.size ≤ 1000 → ∃ m M', f [s.enc] M = .ok (.loc m) M' ∧ M'[m]? = some (.lst (s.post.map Sta.enc)) ∧ Kp N0 M M'
theorem sizeL_snoc (l : List Sta) (s : Sta) : sizeL (l ++ [s]) = sizeL l + s.size := by simp [sizeL]
theorem planOf {f : Fn} (h : ∀ d M, f [d] M = retF (L_plan [some d, none, none, none] M)) : PlanOf f := fun {s M} hs => by
  rw [h]
  obtain ⟨L', M', e, y, hL, h1, h2⟩ := wh_T (c := (tCm dNe (eV 2) (eLst aN))) (b := (sSeq (sSet 3 (eML0 mPop (eV 2)))
  (sSeq (sEx (eML mApp (eV 1) (aC (eV 3) aN)))
  (sIf (tCm (dIn true) (eB dIx (eV 3) (eC (.int 0))) (eC tsts))
  (sEx (eML mExt (eV 2) (aC (eF bList (aC (eSl (eV 3) (oS (eC (.int 1))) oN) aN)) aN)))
  sNil))))
    (fun m L M' => ∃ (acc l : List Sta) (y : Option D), L = [some s.enc, some (.loc M.length), some (.loc (M.length + 1)), y] ∧ M'[M.length]? = some (.lst (acc.map Sta.enc)) ∧ M'[M.length + 1]? = some (.lst (l.map Sta.enc)) ∧ acc ++ restL l = s.pre ∧ sizeL l = m ∧ m ≤ 1000 ∧ Kp N0 M M')
    (fun L M' => ∃ y, L = [some s.enc, some (.loc M.length), some (.loc (M.length + 1)), y] ∧ M'[M.length]? = some (.lst (s.pre.map Sta.enc)) ∧ Kp N0 M M')
    (fun m L M' ⟨acc, l, y, hL, h1, h2, h3, h4, h5, hK⟩ => by
      subst hL
      have hne := (eq_nilL (M := M' ++ [.lst []]) ((Kp.push (S := N0) M' _).at h2 id) (push_at M' _)).2
      simp only [bind_ok, bind_ex, outE_ok, outE_ex, retF_nx, retF_rt, retF_xc, x_optR, x_eV, x_eC, x_kB, x_eB, x_eU, x_eF, x_kM, x_eM, x_ift, x_iff, x_eIf, x_kTup, x_kLst, x_eTup, x_eLst, x_aN, x_kCc, x_kC, x_aC, x_tV, x_kCn, x_kCm, x_tCm, x_okB, x_tA, x_tO, x_kN, x_tN, x_tCh, x_kCj, x_kCi, x_kCh, x_eCh, x_kNb, x_kAn, x_kOr, x_kNo, x_eAnd, x_eOr, x_eNot, x_kCl, x_eCall, x_kS2, x_kS1, x_eSl, x_oN, x_asO, x_oS, x_mLoc, x_kML, x_eML, x_kM0, x_kMl0, x_eML0, x_truB, x_truI, x_asB, x_cnx, x_crt, x_cbk, x_cct, x_cxc, x_sSeq, x_sNil, x_sBrk, x_sCnt, x_kEx, x_kSet, x_sEx, x_sSet, x_okO, x_putsN, x_putsC, x_kPar, x_sPar, x_kRet, x_sRet, x_sRetN, x_sIf, x_kSb3, x_kSb2, x_kSb1, x_sSub, x_kAsg, x_sAsg, x_pnm, x_ptp, x_kFor, x_sFor, x_itT, x_iR1, x_kR2, x_iR2, x_iE, x_tY, x_wN, x_wC, List.getElem?_cons_zero, List.getElem?_cons_succ, List.set_cons_zero, List.set_cons_succ, List.append_nil, List.nil_append, List.cons_append, List.length_cons, List.length_nil, Nat.reduceLeDiff, Nat.reduceAdd, Bool.not_true, Bool.not_false, T_ok, x_kMt, x_sMt, x_mtN, x_mtC, x_sWh, true_or, true_and, and_true, if_true, if_false, hne]
      rcases last_or l with rfl | ⟨l, z, rfl⟩
      · simp [sizeL] at h4
      · refine ⟨by simp, ?_⟩
        have hq1 : (M' ++ [O.lst []])[M.length]? = some (.lst (acc.map Sta.enc)) := (Kp.push (S := N0) M' _).at h1 id
        have hq2 : (M' ++ [O.lst []])[M.length + 1]? = some (.lst (l.map Sta.enc ++ [z.enc])) := (Kp.push (S := N0) M' _).at (by rw [h2, List.map_append]; rfl) id
        have hpop := pop_ok hq2
        have g2 := set_at (o := O.lst (l.map Sta.enc)) (mem_lt hq2)
        have g1 : ((M' ++ [O.lst []]).set (M.length + 1) (.lst (l.map Sta.enc)))[M.length]? = some (.lst (acc.map Sta.enc)) := by rw [List.getElem?_set_ne (by omega)]; exact hq1
        have K1 : Kp N0 M ((M' ++ [O.lst []]).set (M.length + 1) (.lst (l.map Sta.enc))) := (hK.pushn).setn (by omega)
        generalize (M' ++ [O.lst []]).set (M.length + 1) (.lst (l.map Sta.enc)) = M2 at hpop g1 g2 K1
        have plen : acc.length + (restL (l ++ [z])).length = s.size := by rw [← pre_len, ← h3, List.length_append]
        have ha : (acc.map Sta.enc).length < big := by rw [List.length_map]; exact Nat.lt_of_lt_of_le (show acc.length < 2000 by omega) (by decide)
        have happ := app_ok (y := z.enc) g1 ha
        have f1 := set_at (o := O.lst (acc.map Sta.enc ++ [z.enc])) (mem_lt g1)
        have f2 : (M2.set M.length (.lst (acc.map Sta.enc ++ [z.enc])))[M.length + 1]? = some (.lst (l.map Sta.enc)) := by rw [List.getElem?_set_ne (by omega)]; exact g2
        have K2 : Kp N0 M (M2.set M.length (.lst (acc.map Sta.enc ++ [z.enc]))) := K1.setn (Nat.le_refl _)
        generalize M2.set M.length (.lst (acc.map Sta.enc ++ [z.enc])) = M3 at happ f1 f2 K2
        have w1 := fun M => (in_tsts z M).2
        have w2 := ix_word z
        have hz := z.size_kids
        have hzp := z.size_pos
        rw [sizeL_snoc] at h4
        rw [restL_snoc, pre_kids] at h3
        have hl1 := len_sizeL l
        have hl2 := len_sizeL z.kids
        obtain ⟨r, hr1, hr2⟩ := z.enc_head
        cases q : z.isT with
        | true =>
          rw [q] at w1
          have hk : z.kids = [] := by cases z <;> first | rfl | cases q
          simp only [bind_ok, bind_ex, outE_ok, outE_ex, retF_nx, retF_rt, retF_xc, x_optR, x_eV, x_eC, x_kB, x_eB, x_eU, x_eF, x_kM, x_eM, x_ift, x_iff, x_eIf, x_kTup, x_kLst, x_eTup, x_eLst, x_aN, x_kCc, x_kC, x_aC, x_tV, x_kCn, x_kCm, x_tCm, x_okB, x_tA, x_tO, x_kN, x_tN, x_tCh, x_kCj, x_kCi, x_kCh, x_eCh, x_kNb, x_kAn, x_kOr, x_kNo, x_eAnd, x_eOr, x_eNot, x_kCl, x_eCall, x_kS2, x_kS1, x_eSl, x_oN, x_asO, x_oS, x_mLoc, x_kML, x_eML, x_kM0, x_kMl0, x_eML0, x_truB, x_truI, x_asB, x_cnx, x_crt, x_cbk, x_cct, x_cxc, x_sSeq, x_sNil, x_sBrk, x_sCnt, x_kEx, x_kSet, x_sEx, x_sSet, x_okO, x_putsN, x_putsC, x_kPar, x_sPar, x_kRet, x_sRet, x_sRetN, x_sIf, x_kSb3, x_kSb2, x_kSb1, x_sSub, x_kAsg, x_sAsg, x_pnm, x_ptp, x_kFor, x_sFor, x_itT, x_iR1, x_kR2, x_iR2, x_iE, x_tY, x_wN, x_wC, List.getElem?_cons_zero, List.getElem?_cons_succ, List.set_cons_zero, List.set_cons_succ, List.append_nil, List.nil_append, List.cons_append, List.length_cons, List.length_nil, Nat.reduceLeDiff, Nat.reduceAdd, Bool.not_true, Bool.not_false, T_ok, x_kMt, x_sMt, x_mtN, x_mtC, x_sWh, true_or, true_and, and_true, if_true, if_false, hpop, happ, w1, w2, Bool.not_true]
          refine ⟨sizeL l, by omega, acc ++ [z], l, _, rfl, by rw [f1, List.map_append]; rfl, f2, ?_, rfl, by omega, K2⟩
          rw [hk] at h3
          rw [← h3, List.append_assoc]; rfl
        | false =>
          rw [q] at w1
          have hr := hr2 q
          have sl : ∀ M, dSl z.enc (some 1) none M = .ok (.tup (z.kids.map Sta.enc)) M := fun M => by rw [hr1, hr]; exact sl_tl
          have hx := (Kp.push (S := N0) M3 (O.lst (z.kids.map Sta.enc))).at f2 id
          have hbl : (l.map Sta.enc).length + (z.kids.map Sta.enc).length ≤ big := by rw [List.length_map, List.length_map]; exact Nat.le_trans (show _ ≤ 2000 by omega) (by decide)
          simp only [bind_ok, bind_ex, outE_ok, outE_ex, retF_nx, retF_rt, retF_xc, x_optR, x_eV, x_eC, x_kB, x_eB, x_eU, x_eF, x_kM, x_eM, x_ift, x_iff, x_eIf, x_kTup, x_kLst, x_eTup, x_eLst, x_aN, x_kCc, x_kC, x_aC, x_tV, x_kCn, x_kCm, x_tCm, x_okB, x_tA, x_tO, x_kN, x_tN, x_tCh, x_kCj, x_kCi, x_kCh, x_eCh, x_kNb, x_kAn, x_kOr, x_kNo, x_eAnd, x_eOr, x_eNot, x_kCl, x_eCall, x_kS2, x_kS1, x_eSl, x_oN, x_asO, x_oS, x_mLoc, x_kML, x_eML, x_kM0, x_kMl0, x_eML0, x_truB, x_truI, x_asB, x_cnx, x_crt, x_cbk, x_cct, x_cxc, x_sSeq, x_sNil, x_sBrk, x_sCnt, x_kEx, x_kSet, x_sEx, x_sSet, x_okO, x_putsN, x_putsC, x_kPar, x_sPar, x_kRet, x_sRet, x_sRetN, x_sIf, x_kSb3, x_kSb2, x_kSb1, x_sSub, x_kAsg, x_sAsg, x_pnm, x_ptp, x_kFor, x_sFor, x_itT, x_iR1, x_kR2, x_iR2, x_iE, x_tY, x_wN, x_wC, List.getElem?_cons_zero, List.getElem?_cons_succ, List.set_cons_zero, List.set_cons_succ, List.append_nil, List.nil_append, List.cons_append, List.length_cons, List.length_nil, Nat.reduceLeDiff, Nat.reduceAdd, Bool.not_true, Bool.not_false, T_ok, x_kMt, x_sMt, x_mtN, x_mtC, x_sWh, true_or, true_and, and_true, if_true, if_false, hpop, happ, w1, w2, Bool.not_false, sl, list_tup, ext_ok hx (push_at _ _) hbl]
          refine ⟨sizeL (l ++ z.kids), by rw [sizeL_append]; omega, acc ++ [z], l ++ z.kids, _, rfl, ?_, by rw [set_at (mem_lt hx), List.map_append], ?_, rfl, by rw [sizeL_append]; omega, (K2.pushn).setn (by omega)⟩
          · rw [List.getElem?_set_ne (by omega)]
            exact (Kp.push (S := N0) M3 _).at (by rw [f1, List.map_append]; rfl) id
          · rw [restL_append, ← h3, List.append_assoc]; rfl)
    (fun L M' ⟨acc, l, y, hL, h1, h2, h3, h4, h5, hK⟩ => by
      subst hL
      have hl : l = [] := by
        have := len_sizeL l
        exact List.eq_nil_of_length_eq_zero (by omega)
      subst hl
      have hne := (eq_nilL (M := M' ++ [.lst []]) ((Kp.push (S := N0) M' _).at h2 id) (push_at M' _)).2
      simp only [bind_ok, bind_ex, outE_ok, outE_ex, retF_nx, retF_rt, retF_xc, x_optR, x_eV, x_eC, x_kB, x_eB, x_eU, x_eF, x_kM, x_eM, x_ift, x_iff, x_eIf, x_kTup, x_kLst, x_eTup, x_eLst, x_aN, x_kCc, x_kC, x_aC, x_tV, x_kCn, x_kCm, x_tCm, x_okB, x_tA, x_tO, x_kN, x_tN, x_tCh, x_kCj, x_kCi, x_kCh, x_eCh, x_kNb, x_kAn, x_kOr, x_kNo, x_eAnd, x_eOr, x_eNot, x_kCl, x_eCall, x_kS2, x_kS1, x_eSl, x_oN, x_asO, x_oS, x_mLoc, x_kML, x_eML, x_kM0, x_kMl0, x_eML0, x_truB, x_truI, x_asB, x_cnx, x_crt, x_cbk, x_cct, x_cxc, x_sSeq, x_sNil, x_sBrk, x_sCnt, x_kEx, x_kSet, x_sEx, x_sSet, x_okO, x_putsN, x_putsC, x_kPar, x_sPar, x_kRet, x_sRet, x_sRetN, x_sIf, x_kSb3, x_kSb2, x_kSb1, x_sSub, x_kAsg, x_sAsg, x_pnm, x_ptp, x_kFor, x_sFor, x_itT, x_iR1, x_kR2, x_iR2, x_iE, x_tY, x_wN, x_wC, List.getElem?_cons_zero, List.getElem?_cons_succ, List.set_cons_zero, List.set_cons_succ, List.append_nil, List.nil_append, List.cons_append, List.length_cons, List.length_nil, Nat.reduceLeDiff, Nat.reduceAdd, Bool.not_true, Bool.not_false, T_ok, x_kMt, x_sMt, x_mtN, x_mtC, x_sWh, true_or, true_and, and_true, if_true, if_false, hne]
      have h3' : acc = s.pre := by simpa [restL] using h3
      subst h3'
      exact ⟨rfl, _, rfl, (Kp.push (S := N0) M' _).at h1 id, hK.pushn⟩)
    1000000 s.size [some s.enc, some (.loc M.length), some (.loc (M.length + 1)), none] (M ++ [.lst [], .lst [s.enc]])
    ⟨[], [s], none, rfl, by rw [List.getElem?_append_right (Nat.le_refl _), Nat.sub_self]; rfl, by rw [List.getElem?_append_right (by omega)]; simp, by simp [restL], by simp [sizeL], hs, ⟨by simp, fun i hi _ => List.getElem?_append_left hi⟩⟩ (by omega)
  subst hL
  refine ⟨M'.length, M' ++ [.lst ((s.pre.map Sta.enc).reverse)], ?_, by rw [push_at, ← List.map_reverse, pre_post], h2.pushn⟩
  have ea : M ++ [O.lst []] ++ [O.lst [s.enc]] = M ++ [.lst [], .lst [s.enc]] := by simp
  have el : (M ++ [O.lst []]).length = M.length + 1 := by simp
  simp only [L_plan, bind_ok, bind_ex, outE_ok, outE_ex, retF_nx, retF_rt, retF_xc, x_optR, x_eV, x_eC, x_kB, x_eB, x_eU, x_eF, x_kM, x_eM, x_ift, x_iff, x_eIf, x_kTup, x_kLst, x_eTup, x_eLst, x_aN, x_kCc, x_kC, x_aC, x_tV, x_kCn, x_kCm, x_tCm, x_okB, x_tA, x_tO, x_kN, x_tN, x_tCh, x_kCj, x_kCi, x_kCh, x_eCh, x_kNb, x_kAn, x_kOr, x_kNo, x_eAnd, x_eOr, x_eNot, x_kCl, x_eCall, x_kS2, x_kS1, x_eSl, x_oN, x_asO, x_oS, x_mLoc, x_kML, x_eML, x_kM0, x_kMl0, x_eML0, x_truB, x_truI, x_asB, x_cnx, x_crt, x_cbk, x_cct, x_cxc, x_sSeq, x_sNil, x_sBrk, x_sCnt, x_kEx, x_kSet, x_sEx, x_sSet, x_okO, x_putsN, x_putsC, x_kPar, x_sPar, x_kRet, x_sRet, x_sRetN, x_sIf, x_kSb3, x_kSb2, x_kSb1, x_sSub, x_kAsg, x_sAsg, x_pnm, x_ptp, x_kFor, x_sFor, x_itT, x_iR1, x_kR2, x_iR2, x_iE, x_tY, x_wN, x_wC, List.getElem?_cons_zero, List.getElem?_cons_succ, List.set_cons_zero, List.set_cons_succ, List.append_nil, List.nil_append, List.cons_append, List.length_cons, List.length_nil, Nat.reduceLeDiff, Nat.reduceAdd, Bool.not_true, Bool.not_false, T_ok, x_kMt, x_sMt, x_mtN, x_mtC, x_sWh, true_or, true_and, and_true, if_true, if_false, ea, el, e, rev_at h1]
/-! ### judged by a plan -/
def Sta.so (g : Tw → Ex → Ex → Bool) : Sta → Bool
  | .tst w a b => g w a b
  | .bo s t => s.so g && t.so g
  | .ei s t => s.so g || t.so g
  | .ne s => !s.so g
def stepS (g : Tw → Ex → Ex → Bool) : Option (List Bool) → Sta → Option (List Bool)
  | some st, .tst w a b => some (g w a b :: st)
  | some (b :: a :: st), .bo _ _ => some ((a && b) :: st)
  | some (b :: a :: st), .ei _ _ => some ((a || b) :: st)
  | some (b :: st), .ne _ => some ((!b) :: st)
  | _, _ => none
theorem step_none (g : Tw → Ex → Ex → Bool) (l : List Sta) : l.foldl (stepS g) none = none := by
  induction l with
  | nil => rfl
  | cons a l ih => cases a <;> exact ih
theorem step_post (g : Tw → Ex → Ex → Bool) (s : Sta) : ∀ st, s.post.foldl (stepS g) (some st) = some (s.so g :: st) := by
  induction s with
  | tst w a b => exact fun st => rfl
  | bo s t ih1 ih2 => intro st; simp only [Sta.post, List.foldl_append, ih1, ih2]; rfl
  | ei s t ih1 ih2 => intro st; simp only [Sta.post, List.foldl_append, ih1, ih2]; rfl
  | ne s ih => intro st; simp only [Sta.post, List.foldl_append, ih]; rfl
theorem step_take {g : Tw → Ex → Ex → Bool} {l : List Sta} {a b : List Bool} (h : l.foldl (stepS g) (some a) = some b) (i : Nat) : ∃ c, (l.take i).foldl (stepS g) (some a) = some c := by
  cases q : (l.take i).foldl (stepS g) (some a) with
  | some c => exact ⟨c, rfl⟩
  | none =>
    rw [← List.take_append_drop i l, List.foldl_append, q, step_none] at h
    cases h
abbrev jdB : LS := (sIf (tCm (dIn false) (eB dIx (eV 4) (eC (.int 0))) (eC tsts))
  (sSeq (sEx (eML mApp (eV 2) (aC (eB dIx (eV 1) (eV 3)) aN)))
  (sSet 3 (eB dAdd (eV 3) (eC (.int 1)))))
  (sIf (tCm dEq (eB dIx (eV 4) (eC (.int 0))) (eC (.str "neither")))
  (sEx (eML mApp (eV 2) (aC (eNot (eML0 mPop (eV 2))) aN)))
  (sSeq (sPar [5, 6] (aC (eML0 mPop (eV 2)) (aC (eML0 mPop (eV 2)) aN)))
  (sEx (eML mApp (eV 2) (aC (eIf (tCm dEq (eB dIx (eV 4) (eC (.int 0))) (eC (.str "both"))) ((eAnd (eV 6) (eV 5))) ((eOr (eV 6) (eV 5)))) aN))))))
def L_judged : LS :=
  (sSeq (sPar [2, 3] (aC (eLst aN) (aC (eC (.int 0)) aN)))
  (sSeq (sFor (iE (eV 0)) (.nm 4) jdB)
  (sRet (eB dIx (eV 2) (eC (.int 0))))))
def truthsOf (g : Tw → Ex → Ex → Bool) (l : List Sta) : List Bool := l.filterMap fun s => match s with
  | .tst w a b => some (g w a b)
  | _ => none
def Judged (f : Fn) : Prop := ∀ {g : Tw → Ex → Ex → Bool} {s : Sta} {M : Mem} {p q : Nat}, M[p]? = some (.lst (s.post.map Sta.enc)) → M[q]? = some (.lst ((truthsOf g s.post).map D.bl)) → s.size ≤ 1000 →
  ∃ M', f [.loc p, .loc q] M = .ok (.bl (s.so g)) M' ∧ Kp N0 M M'
theorem post_len (s : Sta) : s.post.length = s.size := by rw [← pre_post, List.length_reverse, pre_len]
theorem stack_len {g : Tw → Ex → Ex → Bool} : ∀ {l : List Sta} {a b : List Bool}, l.foldl (stepS g) (some a) = some b → b.length ≤ a.length + l.length
  | [], a, b, h => by cases h; simp
  | s :: l, a, b, h => by
    simp only [List.foldl_cons] at h
    cases q : stepS g (some a) s with
    | none => rw [q, step_none] at h; cases h
    | some c =>
      rw [q] at h
      have ih := stack_len h
      have hc : c.length ≤ a.length + 1 := by
        cases s with
        | tst w x y => cases q; simp
        | bo x y => match a, q with | b :: a :: st, q => cases q; simp
        | ei x y => match a, q with | b :: a :: st, q => cases q; simp
        | ne x => match a, q with | b :: st, q => cases q; simp
      simp only [List.length_cons]; omega
theorem judged_ok {f : Fn} (h : ∀ d e M, f [d, e] M = retF (L_judged [some d, some e, none, none, none, none, none] M)) : Judged f := fun {g s M p q} hp hq hsz => by
  rw [h]
  have hpl := mem_lt hp
  have hql := mem_lt hq
  have hlen := post_len s
  have full := step_post g s []
  obtain ⟨L', M', e, ⟨stk, at_, y4, y5, y6, hL, h1, h2, h3⟩, h4⟩ := for_T (v := .loc p) (j := 4) (b := jdB) (n := s.post.length) (L := [some (.loc p), some (.loc q), some (.loc M.length), some (.int 0), none, none, none]) (M := M ++ [.lst []])
    (fun i L M' => (∃ (stk : List Bool) (at_ : Nat) (y4 y5 y6 : Option D), L = [some (.loc p), some (.loc q), some (.loc M.length), some (.int (at_ : Nat)), y4, y5, y6] ∧ M'[M.length]? = some (.lst (stk.reverse.map D.bl)) ∧ (s.post.take i).foldl (stepS g) (some []) = some stk ∧ (truthsOf g (s.post.take i)).length = at_) ∧ Kp N0 M M')
    ⟨⟨[], 0, none, none, none, rfl, push_at _ _, rfl, rfl⟩, Kp.push _ _⟩
    (fun i L M' hi ⟨⟨stk, at_, y4, y5, y6, hL, h1, h2, h3⟩, hK⟩ => by
      subst hL
      have hz0 : s.post[i]? = some s.post[i] := List.getElem?_eq_getElem hi
      generalize s.post[i] = z at hz0
      have hat : (IV.loc p).at i M' = some z.enc := by
        have : M'[p]? = some (.lst (s.post.map Sta.enc)) := hK.at hp id
        simp only [IV.at, this, O.items, List.getElem?_map, hz0]; rfl
      refine ⟨_, hat, ?_⟩
      have w1 := fun M => (in_tsts z M).1
      have w2 := ix_word z
      obtain ⟨stk2, hn⟩ := step_take full (i + 1)
      have hn' := hn
      rw [List.take_add_one, hz0, Option.toList_some, List.foldl_append, h2] at hn'
      simp only [List.foldl_cons, List.foldl_nil] at hn'
      have hsl := stack_len h2
      have hsb : ∀ (n : Nat), n ≤ stk.length → n < big := fun n hn => by
        have : (s.post.take i).length ≤ s.post.length := by rw [List.length_take]; omega
        exact Nat.lt_of_lt_of_le (show n < 2000 by simp at hsl; omega) (by decide)
      have htr : truthsOf g (s.post.take (i + 1)) = truthsOf g (s.post.take i) ++ truthsOf g [z] := by
        rw [List.take_add_one, hz0, Option.toList_some]; unfold truthsOf; rw [List.filterMap_append]
      cases z with
      | tst w a b =>
        have hq2 : M'[q]? = some (.lst ((truthsOf g s.post).map D.bl)) := hK.at hq id
        have hx : ((truthsOf g s.post).map D.bl)[at_]? = some (.bl (g w a b)) := by
          have e1 : truthsOf g s.post = truthsOf g (s.post.take (i + 1)) ++ truthsOf g (s.post.drop (i + 1)) := by
            unfold truthsOf; rw [← List.filterMap_append, List.take_append_drop]
          rw [List.getElem?_map, e1, htr, List.append_assoc, List.getElem?_append_right (by omega), h3, Nat.sub_self]; rfl
        have ha : ∀ M, dAdd (.int (at_ : Nat)) (.int 1) M = .ok (.int ((at_ + 1 : Nat) : Int)) M := fun _ => rfl
        have e1 : Sta.isT (.tst w a b) = true := rfl
        rw [e1] at w1
        simp only [jdB, bind_ok, bind_ex, outE_ok, outE_ex, retF_nx, retF_rt, retF_xc, x_optR, x_eV, x_eC, x_kB, x_eB, x_eU, x_eF, x_kM, x_eM, x_ift, x_iff, x_eIf, x_kTup, x_kLst, x_eTup, x_eLst, x_aN, x_kCc, x_kC, x_aC, x_tV, x_kCn, x_kCm, x_tCm, x_okB, x_tA, x_tO, x_kN, x_tN, x_tCh, x_kCj, x_kCi, x_kCh, x_eCh, x_kNb, x_kAn, x_kOr, x_kNo, x_eAnd, x_eOr, x_eNot, x_kCl, x_eCall, x_kS2, x_kS1, x_eSl, x_oN, x_asO, x_oS, x_mLoc, x_kML, x_eML, x_kM0, x_kMl0, x_eML0, x_truB, x_truI, x_asB, x_cnx, x_crt, x_cbk, x_cct, x_cxc, x_sSeq, x_sNil, x_sBrk, x_sCnt, x_kEx, x_kSet, x_sEx, x_sSet, x_okO, x_putsN, x_putsC, x_kPar, x_sPar, x_kRet, x_sRet, x_sRetN, x_sIf, x_kSb3, x_kSb2, x_kSb1, x_sSub, x_kAsg, x_sAsg, x_pnm, x_ptp, x_kFor, x_sFor, x_itT, x_iR1, x_kR2, x_iR2, x_iE, x_tY, x_wN, x_wC, List.getElem?_cons_zero, List.getElem?_cons_succ, List.set_cons_zero, List.set_cons_succ, List.append_nil, List.nil_append, List.cons_append, List.length_cons, List.length_nil, Nat.reduceLeDiff, Nat.reduceAdd, Bool.not_true, Bool.not_false, T_ok, x_kMt, x_sMt, x_mtN, x_mtC, x_sWh, true_or, true_and, and_true, if_true, if_false, w1, w2, ix_at hq2 hx, app_ok h1 (hsb _ (by simp)), ha]
        cases hn'
        refine ⟨⟨_, at_ + 1, _, _, _, rfl, ?_, hn, ?_⟩, hK.setn (Nat.le_refl _)⟩
        · rw [set_at (mem_lt h1), List.reverse_cons, List.map_append]; rfl
        · rw [htr, List.length_append, h3]; rfl
      | ne x =>
        have e1 : Sta.isT (.ne x) = false := rfl
        rw [e1] at w1
        have wn : ∀ M, dEq (.str (Sta.ne x).word) (.str "neither") M = .ok (.bl true) M := fun _ => rfl
        match stk, hn', h1, hsb with
        | b :: st, hn', h1, hsb =>
          cases hn'
          have h1' : M'[M.length]? = some (.lst (st.reverse.map D.bl ++ [.bl b])) := by rw [h1, List.reverse_cons, List.map_append]; rfl
          have g1 := set_at (o := O.lst (st.reverse.map D.bl)) (mem_lt h1')
          have nb : ∀ M, truD (.bl b) M = .ok b M := fun _ => rfl
          simp only [jdB, bind_ok, bind_ex, outE_ok, outE_ex, retF_nx, retF_rt, retF_xc, x_optR, x_eV, x_eC, x_kB, x_eB, x_eU, x_eF, x_kM, x_eM, x_ift, x_iff, x_eIf, x_kTup, x_kLst, x_eTup, x_eLst, x_aN, x_kCc, x_kC, x_aC, x_tV, x_kCn, x_kCm, x_tCm, x_okB, x_tA, x_tO, x_kN, x_tN, x_tCh, x_kCj, x_kCi, x_kCh, x_eCh, x_kNb, x_kAn, x_kOr, x_kNo, x_eAnd, x_eOr, x_eNot, x_kCl, x_eCall, x_kS2, x_kS1, x_eSl, x_oN, x_asO, x_oS, x_mLoc, x_kML, x_eML, x_kM0, x_kMl0, x_eML0, x_truB, x_truI, x_asB, x_cnx, x_crt, x_cbk, x_cct, x_cxc, x_sSeq, x_sNil, x_sBrk, x_sCnt, x_kEx, x_kSet, x_sEx, x_sSet, x_okO, x_putsN, x_putsC, x_kPar, x_sPar, x_kRet, x_sRet, x_sRetN, x_sIf, x_kSb3, x_kSb2, x_kSb1, x_sSub, x_kAsg, x_sAsg, x_pnm, x_ptp, x_kFor, x_sFor, x_itT, x_iR1, x_kR2, x_iR2, x_iE, x_tY, x_wN, x_wC, List.getElem?_cons_zero, List.getElem?_cons_succ, List.set_cons_zero, List.set_cons_succ, List.append_nil, List.nil_append, List.cons_append, List.length_cons, List.length_nil, Nat.reduceLeDiff, Nat.reduceAdd, Bool.not_true, Bool.not_false, T_ok, x_kMt, x_sMt, x_mtN, x_mtC, x_sWh, true_or, true_and, and_true, if_true, if_false, w1, w2, wn, pop_ok h1', nb, x_truB, app_ok g1 (hsb _ (by simp))]
          refine ⟨⟨_, at_, _, _, _, rfl, ?_, hn, ?_⟩, (hK.setn (Nat.le_refl _)).setn (Nat.le_refl _)⟩
          · rw [set_at (mem_lt g1), List.reverse_cons, List.map_append]; rfl
          · rw [htr, List.length_append, h3]; rfl
      | bo x y =>
        have e1 : Sta.isT (.bo x y) = false := rfl
        rw [e1] at w1
        have wn : ∀ M, dEq (.str (Sta.bo x y).word) (.str "neither") M = .ok (.bl false) M := fun _ => rfl
        have wb : ∀ M, dEq (.str (Sta.bo x y).word) (.str "both") M = .ok (.bl true) M := fun _ => rfl
        match stk, hn', h1, hsb with
        | b :: a :: st, hn', h1, hsb =>
          cases hn'
          have h1' : M'[M.length]? = some (.lst ((st.reverse.map D.bl ++ [.bl a]) ++ [.bl b])) := by rw [h1, List.reverse_cons, List.reverse_cons, List.map_append, List.map_append]; rfl
          have g1 := set_at (o := O.lst (st.reverse.map D.bl ++ [.bl a])) (mem_lt h1')
          have g2 := set_at (o := O.lst (st.reverse.map D.bl)) (mem_lt g1)
          have hv : ∀ L M, L[6]? = some (some (.bl a)) → L[5]? = some (some (.bl b)) → eAnd (eV 6) (eV 5) L M = .ok (.bl (a && b)) M := fun L M p1 p2 => by
            cases a <;> simp only [bind_ok, bind_ex, outE_ok, outE_ex, retF_nx, retF_rt, retF_xc, x_optR, x_eV, x_eC, x_kB, x_eB, x_eU, x_eF, x_kM, x_eM, x_ift, x_iff, x_eIf, x_kTup, x_kLst, x_eTup, x_eLst, x_aN, x_kCc, x_kC, x_aC, x_tV, x_kCn, x_kCm, x_tCm, x_okB, x_tA, x_tO, x_kN, x_tN, x_tCh, x_kCj, x_kCi, x_kCh, x_eCh, x_kNb, x_kAn, x_kOr, x_kNo, x_eAnd, x_eOr, x_eNot, x_kCl, x_eCall, x_kS2, x_kS1, x_eSl, x_oN, x_asO, x_oS, x_mLoc, x_kML, x_eML, x_kM0, x_kMl0, x_eML0, x_truB, x_truI, x_asB, x_cnx, x_crt, x_cbk, x_cct, x_cxc, x_sSeq, x_sNil, x_sBrk, x_sCnt, x_kEx, x_kSet, x_sEx, x_sSet, x_okO, x_putsN, x_putsC, x_kPar, x_sPar, x_kRet, x_sRet, x_sRetN, x_sIf, x_kSb3, x_kSb2, x_kSb1, x_sSub, x_kAsg, x_sAsg, x_pnm, x_ptp, x_kFor, x_sFor, x_itT, x_iR1, x_kR2, x_iR2, x_iE, x_tY, x_wN, x_wC, List.getElem?_cons_zero, List.getElem?_cons_succ, List.set_cons_zero, List.set_cons_succ, List.append_nil, List.nil_append, List.cons_append, List.length_cons, List.length_nil, Nat.reduceLeDiff, Nat.reduceAdd, Bool.not_true, Bool.not_false, T_ok, x_kMt, x_sMt, x_mtN, x_mtC, x_sWh, true_or, true_and, and_true, if_true, if_false, p1, p2, Bool.true_and, Bool.false_and]
          simp only [jdB, bind_ok, bind_ex, outE_ok, outE_ex, retF_nx, retF_rt, retF_xc, x_optR, x_eV, x_eC, x_kB, x_eB, x_eU, x_eF, x_kM, x_eM, x_ift, x_iff, x_eIf, x_kTup, x_kLst, x_eTup, x_eLst, x_aN, x_kCc, x_kC, x_aC, x_tV, x_kCn, x_kCm, x_tCm, x_okB, x_tA, x_tO, x_kN, x_tN, x_tCh, x_kCj, x_kCi, x_kCh, x_eCh, x_kNb, x_kAn, x_kOr, x_kNo, x_eAnd, x_eOr, x_eNot, x_kCl, x_eCall, x_kS2, x_kS1, x_eSl, x_oN, x_asO, x_oS, x_mLoc, x_kML, x_eML, x_kM0, x_kMl0, x_eML0, x_truB, x_truI, x_asB, x_cnx, x_crt, x_cbk, x_cct, x_cxc, x_sSeq, x_sNil, x_sBrk, x_sCnt, x_kEx, x_kSet, x_sEx, x_sSet, x_okO, x_putsN, x_putsC, x_kPar, x_sPar, x_kRet, x_sRet, x_sRetN, x_sIf, x_kSb3, x_kSb2, x_kSb1, x_sSub, x_kAsg, x_sAsg, x_pnm, x_ptp, x_kFor, x_sFor, x_itT, x_iR1, x_kR2, x_iR2, x_iE, x_tY, x_wN, x_wC, List.getElem?_cons_zero, List.getElem?_cons_succ, List.set_cons_zero, List.set_cons_succ, List.append_nil, List.nil_append, List.cons_append, List.length_cons, List.length_nil, Nat.reduceLeDiff, Nat.reduceAdd, Bool.not_true, Bool.not_false, T_ok, x_kMt, x_sMt, x_mtN, x_mtC, x_sWh, true_or, true_and, and_true, if_true, if_false, w1, w2, wn, wb, pop_ok h1', pop_ok g1]
          cases a with
          | true =>
            simp only [bind_ok, bind_ex, outE_ok, outE_ex, retF_nx, retF_rt, retF_xc, x_optR, x_eV, x_eC, x_kB, x_eB, x_eU, x_eF, x_kM, x_eM, x_ift, x_iff, x_eIf, x_kTup, x_kLst, x_eTup, x_eLst, x_aN, x_kCc, x_kC, x_aC, x_tV, x_kCn, x_kCm, x_tCm, x_okB, x_tA, x_tO, x_kN, x_tN, x_tCh, x_kCj, x_kCi, x_kCh, x_eCh, x_kNb, x_kAn, x_kOr, x_kNo, x_eAnd, x_eOr, x_eNot, x_kCl, x_eCall, x_kS2, x_kS1, x_eSl, x_oN, x_asO, x_oS, x_mLoc, x_kML, x_eML, x_kM0, x_kMl0, x_eML0, x_truB, x_truI, x_asB, x_cnx, x_crt, x_cbk, x_cct, x_cxc, x_sSeq, x_sNil, x_sBrk, x_sCnt, x_kEx, x_kSet, x_sEx, x_sSet, x_okO, x_putsN, x_putsC, x_kPar, x_sPar, x_kRet, x_sRet, x_sRetN, x_sIf, x_kSb3, x_kSb2, x_kSb1, x_sSub, x_kAsg, x_sAsg, x_pnm, x_ptp, x_kFor, x_sFor, x_itT, x_iR1, x_kR2, x_iR2, x_iE, x_tY, x_wN, x_wC, List.getElem?_cons_zero, List.getElem?_cons_succ, List.set_cons_zero, List.set_cons_succ, List.append_nil, List.nil_append, List.cons_append, List.length_cons, List.length_nil, Nat.reduceLeDiff, Nat.reduceAdd, Bool.not_true, Bool.not_false, T_ok, x_kMt, x_sMt, x_mtN, x_mtC, x_sWh, true_or, true_and, and_true, if_true, if_false, app_ok g2 (hsb _ (by simp; omega))]
            refine ⟨⟨_, at_, _, _, _, rfl, ?_, hn, ?_⟩, ((hK.setn (Nat.le_refl _)).setn (Nat.le_refl _)).setn (Nat.le_refl _)⟩
            · rw [set_at (mem_lt g2), List.reverse_cons, List.map_append]; rfl
            · rw [htr, List.length_append, h3]; rfl
          | false =>
            simp only [bind_ok, bind_ex, outE_ok, outE_ex, retF_nx, retF_rt, retF_xc, x_optR, x_eV, x_eC, x_kB, x_eB, x_eU, x_eF, x_kM, x_eM, x_ift, x_iff, x_eIf, x_kTup, x_kLst, x_eTup, x_eLst, x_aN, x_kCc, x_kC, x_aC, x_tV, x_kCn, x_kCm, x_tCm, x_okB, x_tA, x_tO, x_kN, x_tN, x_tCh, x_kCj, x_kCi, x_kCh, x_eCh, x_kNb, x_kAn, x_kOr, x_kNo, x_eAnd, x_eOr, x_eNot, x_kCl, x_eCall, x_kS2, x_kS1, x_eSl, x_oN, x_asO, x_oS, x_mLoc, x_kML, x_eML, x_kM0, x_kMl0, x_eML0, x_truB, x_truI, x_asB, x_cnx, x_crt, x_cbk, x_cct, x_cxc, x_sSeq, x_sNil, x_sBrk, x_sCnt, x_kEx, x_kSet, x_sEx, x_sSet, x_okO, x_putsN, x_putsC, x_kPar, x_sPar, x_kRet, x_sRet, x_sRetN, x_sIf, x_kSb3, x_kSb2, x_kSb1, x_sSub, x_kAsg, x_sAsg, x_pnm, x_ptp, x_kFor, x_sFor, x_itT, x_iR1, x_kR2, x_iR2, x_iE, x_tY, x_wN, x_wC, List.getElem?_cons_zero, List.getElem?_cons_succ, List.set_cons_zero, List.set_cons_succ, List.append_nil, List.nil_append, List.cons_append, List.length_cons, List.length_nil, Nat.reduceLeDiff, Nat.reduceAdd, Bool.not_true, Bool.not_false, T_ok, x_kMt, x_sMt, x_mtN, x_mtC, x_sWh, true_or, true_and, and_true, if_true, if_false, app_ok g2 (hsb _ (by simp; omega))]
            refine ⟨⟨_, at_, _, _, _, rfl, ?_, hn, ?_⟩, ((hK.setn (Nat.le_refl _)).setn (Nat.le_refl _)).setn (Nat.le_refl _)⟩
            · rw [set_at (mem_lt g2), List.reverse_cons, List.map_append]; rfl
            · rw [htr, List.length_append, h3]; rfl
      | ei x y =>
        have e1 : Sta.isT (.ei x y) = false := rfl
        rw [e1] at w1
        have wn : ∀ M, dEq (.str (Sta.ei x y).word) (.str "neither") M = .ok (.bl false) M := fun _ => rfl
        have wb : ∀ M, dEq (.str (Sta.ei x y).word) (.str "both") M = .ok (.bl false) M := fun _ => rfl
        match stk, hn', h1, hsb with
        | b :: a :: st, hn', h1, hsb =>
          cases hn'
          have h1' : M'[M.length]? = some (.lst ((st.reverse.map D.bl ++ [.bl a]) ++ [.bl b])) := by rw [h1, List.reverse_cons, List.reverse_cons, List.map_append, List.map_append]; rfl
          have g1 := set_at (o := O.lst (st.reverse.map D.bl ++ [.bl a])) (mem_lt h1')
          have g2 := set_at (o := O.lst (st.reverse.map D.bl)) (mem_lt g1)
          simp only [jdB, bind_ok, bind_ex, outE_ok, outE_ex, retF_nx, retF_rt, retF_xc, x_optR, x_eV, x_eC, x_kB, x_eB, x_eU, x_eF, x_kM, x_eM, x_ift, x_iff, x_eIf, x_kTup, x_kLst, x_eTup, x_eLst, x_aN, x_kCc, x_kC, x_aC, x_tV, x_kCn, x_kCm, x_tCm, x_okB, x_tA, x_tO, x_kN, x_tN, x_tCh, x_kCj, x_kCi, x_kCh, x_eCh, x_kNb, x_kAn, x_kOr, x_kNo, x_eAnd, x_eOr, x_eNot, x_kCl, x_eCall, x_kS2, x_kS1, x_eSl, x_oN, x_asO, x_oS, x_mLoc, x_kML, x_eML, x_kM0, x_kMl0, x_eML0, x_truB, x_truI, x_asB, x_cnx, x_crt, x_cbk, x_cct, x_cxc, x_sSeq, x_sNil, x_sBrk, x_sCnt, x_kEx, x_kSet, x_sEx, x_sSet, x_okO, x_putsN, x_putsC, x_kPar, x_sPar, x_kRet, x_sRet, x_sRetN, x_sIf, x_kSb3, x_kSb2, x_kSb1, x_sSub, x_kAsg, x_sAsg, x_pnm, x_ptp, x_kFor, x_sFor, x_itT, x_iR1, x_kR2, x_iR2, x_iE, x_tY, x_wN, x_wC, List.getElem?_cons_zero, List.getElem?_cons_succ, List.set_cons_zero, List.set_cons_succ, List.append_nil, List.nil_append, List.cons_append, List.length_cons, List.length_nil, Nat.reduceLeDiff, Nat.reduceAdd, Bool.not_true, Bool.not_false, T_ok, x_kMt, x_sMt, x_mtN, x_mtC, x_sWh, true_or, true_and, and_true, if_true, if_false, w1, w2, wn, wb, pop_ok h1', pop_ok g1]
          cases a with
          | true =>
            simp only [bind_ok, bind_ex, outE_ok, outE_ex, retF_nx, retF_rt, retF_xc, x_optR, x_eV, x_eC, x_kB, x_eB, x_eU, x_eF, x_kM, x_eM, x_ift, x_iff, x_eIf, x_kTup, x_kLst, x_eTup, x_eLst, x_aN, x_kCc, x_kC, x_aC, x_tV, x_kCn, x_kCm, x_tCm, x_okB, x_tA, x_tO, x_kN, x_tN, x_tCh, x_kCj, x_kCi, x_kCh, x_eCh, x_kNb, x_kAn, x_kOr, x_kNo, x_eAnd, x_eOr, x_eNot, x_kCl, x_eCall, x_kS2, x_kS1, x_eSl, x_oN, x_asO, x_oS, x_mLoc, x_kML, x_eML, x_kM0, x_kMl0, x_eML0, x_truB, x_truI, x_asB, x_cnx, x_crt, x_cbk, x_cct, x_cxc, x_sSeq, x_sNil, x_sBrk, x_sCnt, x_kEx, x_kSet, x_sEx, x_sSet, x_okO, x_putsN, x_putsC, x_kPar, x_sPar, x_kRet, x_sRet, x_sRetN, x_sIf, x_kSb3, x_kSb2, x_kSb1, x_sSub, x_kAsg, x_sAsg, x_pnm, x_ptp, x_kFor, x_sFor, x_itT, x_iR1, x_kR2, x_iR2, x_iE, x_tY, x_wN, x_wC, List.getElem?_cons_zero, List.getElem?_cons_succ, List.set_cons_zero, List.set_cons_succ, List.append_nil, List.nil_append, List.cons_append, List.length_cons, List.length_nil, Nat.reduceLeDiff, Nat.reduceAdd, Bool.not_true, Bool.not_false, T_ok, x_kMt, x_sMt, x_mtN, x_mtC, x_sWh, true_or, true_and, and_true, if_true, if_false, app_ok g2 (hsb _ (by simp; omega))]
            refine ⟨⟨_, at_, _, _, _, rfl, ?_, hn, ?_⟩, ((hK.setn (Nat.le_refl _)).setn (Nat.le_refl _)).setn (Nat.le_refl _)⟩
            · rw [set_at (mem_lt g2), List.reverse_cons, List.map_append]; rfl
            · rw [htr, List.length_append, h3]; rfl
          | false =>
            simp only [bind_ok, bind_ex, outE_ok, outE_ex, retF_nx, retF_rt, retF_xc, x_optR, x_eV, x_eC, x_kB, x_eB, x_eU, x_eF, x_kM, x_eM, x_ift, x_iff, x_eIf, x_kTup, x_kLst, x_eTup, x_eLst, x_aN, x_kCc, x_kC, x_aC, x_tV, x_kCn, x_kCm, x_tCm, x_okB, x_tA, x_tO, x_kN, x_tN, x_tCh, x_kCj, x_kCi, x_kCh, x_eCh, x_kNb, x_kAn, x_kOr, x_kNo, x_eAnd, x_eOr, x_eNot, x_kCl, x_eCall, x_kS2, x_kS1, x_eSl, x_oN, x_asO, x_oS, x_mLoc, x_kML, x_eML, x_kM0, x_kMl0, x_eML0, x_truB, x_truI, x_asB, x_cnx, x_crt, x_cbk, x_cct, x_cxc, x_sSeq, x_sNil, x_sBrk, x_sCnt, x_kEx, x_kSet, x_sEx, x_sSet, x_okO, x_putsN, x_putsC, x_kPar, x_sPar, x_kRet, x_sRet, x_sRetN, x_sIf, x_kSb3, x_kSb2, x_kSb1, x_sSub, x_kAsg, x_sAsg, x_pnm, x_ptp, x_kFor, x_sFor, x_itT, x_iR1, x_kR2, x_iR2, x_iE, x_tY, x_wN, x_wC, List.getElem?_cons_zero, List.getElem?_cons_succ, List.set_cons_zero, List.set_cons_succ, List.append_nil, List.nil_append, List.cons_append, List.length_cons, List.length_nil, Nat.reduceLeDiff, Nat.reduceAdd, Bool.not_true, Bool.not_false, T_ok, x_kMt, x_sMt, x_mtN, x_mtC, x_sWh, true_or, true_and, and_true, if_true, if_false, app_ok g2 (hsb _ (by simp; omega))]
            refine ⟨⟨_, at_, _, _, _, rfl, ?_, hn, ?_⟩, ((hK.setn (Nat.le_refl _)).setn (Nat.le_refl _)).setn (Nat.le_refl _)⟩
            · rw [set_at (mem_lt g2), List.reverse_cons, List.map_append]; rfl
            · rw [htr, List.length_append, h3]; rfl)
    (fun L M' ⟨_, hK⟩ => by
      have : M'[p]? = some (.lst (s.post.map Sta.enc)) := hK.at hp id
      simp only [IV.at, this, O.items, List.getElem?_map, List.getElem?_eq_none (Nat.le_refl _)]; rfl)
  subst hL
  rw [List.take_length, full] at h2
  cases h2
  refine ⟨M', ?_, h4⟩
  have hm := (Kp.push (S := N0) M (.lst [])).at hp id
  have hit : itD (.loc p) (M ++ [.lst []]) = .ok (.loc p) (M ++ [.lst []]) := by simp only [itD, hm]
  have hs2 : (IV.loc p).size (M ++ [.lst []]) = s.post.length := by simp only [IV.size, hm, O.items, List.length_map]
  have hx : dIx (.loc M.length) (.int 0) M' = .ok (.bl (s.so g)) M' := ix_at (i := 0) (show M'[M.length]? = some (.lst [.bl (s.so g)]) from h1) rfl
  simp only [L_judged, bind_ok, bind_ex, outE_ok, outE_ex, retF_nx, retF_rt, retF_xc, x_optR, x_eV, x_eC, x_kB, x_eB, x_eU, x_eF, x_kM, x_eM, x_ift, x_iff, x_eIf, x_kTup, x_kLst, x_eTup, x_eLst, x_aN, x_kCc, x_kC, x_aC, x_tV, x_kCn, x_kCm, x_tCm, x_okB, x_tA, x_tO, x_kN, x_tN, x_tCh, x_kCj, x_kCi, x_kCh, x_eCh, x_kNb, x_kAn, x_kOr, x_kNo, x_eAnd, x_eOr, x_eNot, x_kCl, x_eCall, x_kS2, x_kS1, x_eSl, x_oN, x_asO, x_oS, x_mLoc, x_kML, x_eML, x_kM0, x_kMl0, x_eML0, x_truB, x_truI, x_asB, x_cnx, x_crt, x_cbk, x_cct, x_cxc, x_sSeq, x_sNil, x_sBrk, x_sCnt, x_kEx, x_kSet, x_sEx, x_sSet, x_okO, x_putsN, x_putsC, x_kPar, x_sPar, x_kRet, x_sRet, x_sRetN, x_sIf, x_kSb3, x_kSb2, x_kSb1, x_sSub, x_kAsg, x_sAsg, x_pnm, x_ptp, x_kFor, x_sFor, x_itT, x_iR1, x_kR2, x_iR2, x_iE, x_tY, x_wN, x_wC, List.getElem?_cons_zero, List.getElem?_cons_succ, List.set_cons_zero, List.set_cons_succ, List.append_nil, List.nil_append, List.cons_append, List.length_cons, List.length_nil, Nat.reduceLeDiff, Nat.reduceAdd, Bool.not_true, Bool.not_false, T_ok, x_kMt, x_sMt, x_mtN, x_mtC, x_sWh, true_or, true_and, and_true, if_true, if_false, hit, hs2, e, hx]
end G

/-! X17: statements: is_true, and the law's own look at it. -/
namespace G
open PySem L2
/-- the number with a sign -/
def sgn (w : Nat) (x : Int) : Int := if 2 ^ (w - 1) ≤ x then x - 2 ^ w else x
def tso (wd : Nat) (w : Tw) (x y : Int) : Bool := match w with
  | .eq => decide (x = y)
  | .bel => decide (x < y)
  | .les => decide (sgn wd x < sgn wd y)
/-- the truth of a test of values at a width -/
def tsoV (vs : List Int) (wd : Nat) (w : Tw) (a b : Ex) : Bool := tso wd w ((a.val vs).fmod (2 ^ wd)) ((b.val vs).fmod (2 ^ wd))
theorem pow_half {w : Nat} (h : 1 ≤ w) : (2 : Int) ^ w = 2 * 2 ^ (w - 1) := by
  obtain ⟨n, rfl⟩ : ∃ n, w = n + 1 := ⟨w - 1, by omega⟩
  rw [Nat.add_sub_cancel, Int.pow_succ, Int.mul_comm]
def Signed (f : Fn) : Prop := ∀ {x : Int} {w : Nat} {M : Mem}, 0 ≤ x → x < 2 ^ w → 1 ≤ w → w ≤ 8000 → f [.int x, .int w] M = .ok (.int (sgn w x)) M
def L_signed : LS := (sRet (eIf (tCm dEq (eB dShr (eV 0) (eB dSub (eV 1) (eC (.int 1)))) (eC (.int 1))) (eB dSub (eV 0) (eB dShl (eC (.int 1)) (eV 1))) (eV 0)))
theorem signed_ok {f : Fn} (h : ∀ d e M, f [d, e] M = retF (L_signed [some d, some e] M)) : Signed f := fun {x w M} h0 h1 hw hw2 => by
  rw [h]
  have hs : ∀ M, dSub (.int (w : Nat)) (.int 1) M = .ok (.int ((w - 1 : Nat) : Int)) M := fun M => by simp only [dSub]; congr 2; omega
  have hl : ∀ M, dShl (.int 1) (.int (w : Nat)) M = .ok (.int (1 * 2 ^ w)) M := fun M => shl_ok (a := 1) (by decide) (by decide) (by omega)
  have hp := pow_half hw
  have hp0 : (0 : Int) < 2 ^ (w - 1) := Int.pow_pos (by decide)
  by_cases q : 2 ^ (w - 1) ≤ x
  · have e1 : x / 2 ^ (w - 1) = 1 := by
      have a1 : (1 : Int) ≤ x / 2 ^ (w - 1) := (Int.le_ediv_iff_mul_le hp0).mpr (by omega)
      have a2 : x / 2 ^ (w - 1) < 2 := (Int.ediv_lt_iff_lt_mul hp0).mpr (by omega)
      omega
    have e2 : ∀ M, dEq (.int (x / 2 ^ (w - 1))) (.int 1) M = .ok (.bl true) M := fun M => by rw [e1]; rfl
    have su : ∀ b M, dSub (.int x) (.int b) M = .ok (.int (x - b)) M := fun _ _ => rfl
    simp only [L_signed, bind_ok, bind_ex, outE_ok, outE_ex, retF_nx, retF_rt, retF_xc, x_optR, x_eV, x_eC, x_kB, x_eB, x_eU, x_eF, x_kM, x_eM, x_ift, x_iff, x_eIf, x_kTup, x_kLst, x_eTup, x_eLst, x_aN, x_kCc, x_kC, x_aC, x_tV, x_kCn, x_kCm, x_tCm, x_okB, x_tA, x_tO, x_kN, x_tN, x_tCh, x_kCj, x_kCi, x_kCh, x_eCh, x_kNb, x_kAn, x_kOr, x_kNo, x_eAnd, x_eOr, x_eNot, x_kCl, x_eCall, x_kS2, x_kS1, x_eSl, x_oN, x_asO, x_oS, x_mLoc, x_kML, x_eML, x_kM0, x_kMl0, x_eML0, x_truB, x_truI, x_asB, x_cnx, x_crt, x_cbk, x_cct, x_cxc, x_sSeq, x_sNil, x_sBrk, x_sCnt, x_kEx, x_kSet, x_sEx, x_sSet, x_okO, x_putsN, x_putsC, x_kPar, x_sPar, x_kRet, x_sRet, x_sRetN, x_sIf, x_kSb3, x_kSb2, x_kSb1, x_sSub, x_kAsg, x_sAsg, x_pnm, x_ptp, x_kFor, x_sFor, x_itT, x_iR1, x_kR2, x_iR2, x_iE, x_tY, x_wN, x_wC, List.getElem?_cons_zero, List.getElem?_cons_succ, List.set_cons_zero, List.set_cons_succ, List.append_nil, List.nil_append, List.cons_append, List.length_cons, List.length_nil, Nat.reduceLeDiff, Nat.reduceAdd, Bool.not_true, Bool.not_false, T_ok, x_kMt, x_sMt, x_mtN, x_mtC, x_sWh, true_or, true_and, and_true, if_true, if_false, hs, shr_ok, e2, hl, su, Int.one_mul, sgn, if_pos q]
  · have e1 : x / 2 ^ (w - 1) = 0 := Int.ediv_eq_zero_of_lt h0 (by omega)
    have e2 : ∀ M, dEq (.int (x / 2 ^ (w - 1))) (.int 1) M = .ok (.bl false) M := fun M => by rw [e1]; rfl
    simp only [L_signed, bind_ok, bind_ex, outE_ok, outE_ex, retF_nx, retF_rt, retF_xc, x_optR, x_eV, x_eC, x_kB, x_eB, x_eU, x_eF, x_kM, x_eM, x_ift, x_iff, x_eIf, x_kTup, x_kLst, x_eTup, x_eLst, x_aN, x_kCc, x_kC, x_aC, x_tV, x_kCn, x_kCm, x_tCm, x_okB, x_tA, x_tO, x_kN, x_tN, x_tCh, x_kCj, x_kCi, x_kCh, x_eCh, x_kNb, x_kAn, x_kOr, x_kNo, x_eAnd, x_eOr, x_eNot, x_kCl, x_eCall, x_kS2, x_kS1, x_eSl, x_oN, x_asO, x_oS, x_mLoc, x_kML, x_eML, x_kM0, x_kMl0, x_eML0, x_truB, x_truI, x_asB, x_cnx, x_crt, x_cbk, x_cct, x_cxc, x_sSeq, x_sNil, x_sBrk, x_sCnt, x_kEx, x_kSet, x_sEx, x_sSet, x_okO, x_putsN, x_putsC, x_kPar, x_sPar, x_kRet, x_sRet, x_sRetN, x_sIf, x_kSb3, x_kSb2, x_kSb1, x_sSub, x_kAsg, x_sAsg, x_pnm, x_ptp, x_kFor, x_sFor, x_itT, x_iR1, x_kR2, x_iR2, x_iE, x_tY, x_wN, x_wC, List.getElem?_cons_zero, List.getElem?_cons_succ, List.set_cons_zero, List.set_cons_succ, List.append_nil, List.nil_append, List.cons_append, List.length_cons, List.length_nil, Nat.reduceLeDiff, Nat.reduceAdd, Bool.not_true, Bool.not_false, T_ok, x_kMt, x_sMt, x_mtN, x_mtC, x_sWh, true_or, true_and, and_true, if_true, if_false, hs, shr_ok, e2, sgn, if_neg q]
theorem fmod_rg (x : Int) (w : Nat) : 0 ≤ x.fmod (2 ^ w) ∧ x.fmod (2 ^ w) < 2 ^ w := fmod_lt (pow_pos2 w)
/-- a test of two numbers, as the program and the law tell it -/
abbrev tsE (ia ib : Nat) (ix : LE) (sg : Fn) (iw : Nat) : LS := (sSeq (sIf (tCm dEq ix (eC (.str "equal")))
  (sRet (eB dEq (eV ia) (eV ib)))
  sNil)
  (sRet (eIf (tCm dEq ix (eC (.str "below"))) (eB (dCmpI fun i j => decide (i < j)) (eV ia) (eV ib)) (eB (dCmpI fun i j => decide (i < j)) (eCall sg [] (aC (eV ia) (aC (eV iw) aN))) (eCall sg [] (aC (eV ib) (aC (eV iw) aN)))))))
def L_tt (vo sg : Fn) : LS :=
  (sSeq (sPar [3, 4] (aC (eCall vo [] (aC (eB dIx (eV 0) (eC (.int 1))) (aC (eV 1) (aC (eV 2) aN)))) (aC (eCall vo [] (aC (eB dIx (eV 0) (eC (.int 2))) (aC (eV 1) (aC (eV 2) aN)))) aN)))
  (tsE 3 4 (eB dIx (eV 0) (eC (.int 0))) sg 2))
def TestT (f : Fn) : Prop := ∀ {B : Nat} {vs : List Int} {w : Tw} {a b : Ex} {wd : Nat} {M : Mem}, Vals3 B vs → (Sta.tst w a b).ok 10 → 1 ≤ wd → wd ≤ 8000 → f [(Sta.tst w a b).enc, encV vs, .int wd] M = .ok (.bl (tsoV vs wd w a b)) M
theorem beq_dec (x y : Int) : (x == y) = decide (x = y) := by rw [Bool.eq_iff_iff, beq_iff_eq, decide_eq_true_eq]
theorem testT {f vo sg : Fn} (hv : ValueOf vo) (hs : Signed sg) (h : ∀ d e g M, f [d, e, g] M = retF (L_tt vo sg [some d, some e, some g, none, none] M)) : TestT f := fun {B vs w a b wd M} hvs ho h1 h2 => by
  rw [h]
  have e1 : ∀ M, vo [a.enc, encV vs, .int wd] M = .ok (.int ((a.val vs).fmod (2 ^ wd))) M := fun M => hv hvs ho.1.1 ho.1.2 (by omega)
  have e2 : ∀ M, vo [b.enc, encV vs, .int wd] M = .ok (.int ((b.val vs).fmod (2 ^ wd))) M := fun M => hv hvs ho.2.1 ho.2.2 (by omega)
  have ra := fmod_rg (a.val vs) wd
  have rb := fmod_rg (b.val vs) wd
  unfold tsoV
  generalize (a.val vs).fmod (2 ^ wd) = x at e1 ra
  generalize (b.val vs).fmod (2 ^ wd) = y at e2 rb
  have s1 : ∀ M, sg [.int x, .int wd] M = .ok (.int (sgn wd x)) M := fun M => hs ra.1 ra.2 h1 h2
  have s2 : ∀ M, sg [.int y, .int wd] M = .ok (.int (sgn wd y)) M := fun M => hs rb.1 rb.2 h1 h2
  cases w with
  | eq =>
    have q1 : ∀ M, dEq (.str Tw.eq.word) (.str "equal") M = .ok (.bl true) M := fun _ => rfl
    simp only [L_tt, Sta.enc, bind_ok, bind_ex, outE_ok, outE_ex, retF_nx, retF_rt, retF_xc, x_optR, x_eV, x_eC, x_kB, x_eB, x_eU, x_eF, x_kM, x_eM, x_ift, x_iff, x_eIf, x_kTup, x_kLst, x_eTup, x_eLst, x_aN, x_kCc, x_kC, x_aC, x_tV, x_kCn, x_kCm, x_tCm, x_okB, x_tA, x_tO, x_kN, x_tN, x_tCh, x_kCj, x_kCi, x_kCh, x_eCh, x_kNb, x_kAn, x_kOr, x_kNo, x_eAnd, x_eOr, x_eNot, x_kCl, x_eCall, x_kS2, x_kS1, x_eSl, x_oN, x_asO, x_oS, x_mLoc, x_kML, x_eML, x_kM0, x_kMl0, x_eML0, x_truB, x_truI, x_asB, x_cnx, x_crt, x_cbk, x_cct, x_cxc, x_sSeq, x_sNil, x_sBrk, x_sCnt, x_kEx, x_kSet, x_sEx, x_sSet, x_okO, x_putsN, x_putsC, x_kPar, x_sPar, x_kRet, x_sRet, x_sRetN, x_sIf, x_kSb3, x_kSb2, x_kSb1, x_sSub, x_kAsg, x_sAsg, x_pnm, x_ptp, x_kFor, x_sFor, x_itT, x_iR1, x_kR2, x_iR2, x_iE, x_tY, x_wN, x_wC, List.getElem?_cons_zero, List.getElem?_cons_succ, List.set_cons_zero, List.set_cons_succ, List.append_nil, List.nil_append, List.cons_append, List.length_cons, List.length_nil, Nat.reduceLeDiff, Nat.reduceAdd, Bool.not_true, Bool.not_false, T_ok, x_kMt, x_sMt, x_mtN, x_mtC, x_sWh, true_or, true_and, and_true, if_true, if_false, ixa, ixb, ixc, e1, e2, q1, eq_int, beq_dec, tso]
  | bel =>
    have q1 : ∀ M, dEq (.str Tw.bel.word) (.str "equal") M = .ok (.bl false) M := fun _ => rfl
    have q2 : ∀ M, dEq (.str Tw.bel.word) (.str "below") M = .ok (.bl true) M := fun _ => rfl
    simp only [L_tt, Sta.enc, bind_ok, bind_ex, outE_ok, outE_ex, retF_nx, retF_rt, retF_xc, x_optR, x_eV, x_eC, x_kB, x_eB, x_eU, x_eF, x_kM, x_eM, x_ift, x_iff, x_eIf, x_kTup, x_kLst, x_eTup, x_eLst, x_aN, x_kCc, x_kC, x_aC, x_tV, x_kCn, x_kCm, x_tCm, x_okB, x_tA, x_tO, x_kN, x_tN, x_tCh, x_kCj, x_kCi, x_kCh, x_eCh, x_kNb, x_kAn, x_kOr, x_kNo, x_eAnd, x_eOr, x_eNot, x_kCl, x_eCall, x_kS2, x_kS1, x_eSl, x_oN, x_asO, x_oS, x_mLoc, x_kML, x_eML, x_kM0, x_kMl0, x_eML0, x_truB, x_truI, x_asB, x_cnx, x_crt, x_cbk, x_cct, x_cxc, x_sSeq, x_sNil, x_sBrk, x_sCnt, x_kEx, x_kSet, x_sEx, x_sSet, x_okO, x_putsN, x_putsC, x_kPar, x_sPar, x_kRet, x_sRet, x_sRetN, x_sIf, x_kSb3, x_kSb2, x_kSb1, x_sSub, x_kAsg, x_sAsg, x_pnm, x_ptp, x_kFor, x_sFor, x_itT, x_iR1, x_kR2, x_iR2, x_iE, x_tY, x_wN, x_wC, List.getElem?_cons_zero, List.getElem?_cons_succ, List.set_cons_zero, List.set_cons_succ, List.append_nil, List.nil_append, List.cons_append, List.length_cons, List.length_nil, Nat.reduceLeDiff, Nat.reduceAdd, Bool.not_true, Bool.not_false, T_ok, x_kMt, x_sMt, x_mtN, x_mtC, x_sWh, true_or, true_and, and_true, if_true, if_false, ixa, ixb, ixc, e1, e2, q1, q2, dCmpI, tso]
  | les =>
    have q1 : ∀ M, dEq (.str Tw.les.word) (.str "equal") M = .ok (.bl false) M := fun _ => rfl
    have q2 : ∀ M, dEq (.str Tw.les.word) (.str "below") M = .ok (.bl false) M := fun _ => rfl
    simp only [L_tt, Sta.enc, bind_ok, bind_ex, outE_ok, outE_ex, retF_nx, retF_rt, retF_xc, x_optR, x_eV, x_eC, x_kB, x_eB, x_eU, x_eF, x_kM, x_eM, x_ift, x_iff, x_eIf, x_kTup, x_kLst, x_eTup, x_eLst, x_aN, x_kCc, x_kC, x_aC, x_tV, x_kCn, x_kCm, x_tCm, x_okB, x_tA, x_tO, x_kN, x_tN, x_tCh, x_kCj, x_kCi, x_kCh, x_eCh, x_kNb, x_kAn, x_kOr, x_kNo, x_eAnd, x_eOr, x_eNot, x_kCl, x_eCall, x_kS2, x_kS1, x_eSl, x_oN, x_asO, x_oS, x_mLoc, x_kML, x_eML, x_kM0, x_kMl0, x_eML0, x_truB, x_truI, x_asB, x_cnx, x_crt, x_cbk, x_cct, x_cxc, x_sSeq, x_sNil, x_sBrk, x_sCnt, x_kEx, x_kSet, x_sEx, x_sSet, x_okO, x_putsN, x_putsC, x_kPar, x_sPar, x_kRet, x_sRet, x_sRetN, x_sIf, x_kSb3, x_kSb2, x_kSb1, x_sSub, x_kAsg, x_sAsg, x_pnm, x_ptp, x_kFor, x_sFor, x_itT, x_iR1, x_kR2, x_iR2, x_iE, x_tY, x_wN, x_wC, List.getElem?_cons_zero, List.getElem?_cons_succ, List.set_cons_zero, List.set_cons_succ, List.append_nil, List.nil_append, List.cons_append, List.length_cons, List.length_nil, Nat.reduceLeDiff, Nat.reduceAdd, Bool.not_true, Bool.not_false, T_ok, x_kMt, x_sMt, x_mtN, x_mtC, x_sWh, true_or, true_and, and_true, if_true, if_false, ixa, ixb, ixc, e1, e2, q1, q2, s1, s2, dCmpI, tso]
theorem post_sub {n : Nat} {s : Sta} (h : s.ok n) : ∀ t ∈ s.post, t.ok n := by
  induction s with
  | tst w a b => intro t m; simp [Sta.post] at m; subst m; exact h
  | bo s t ih1 ih2 => intro x m; simp [Sta.post] at m; rcases m with m | m | m; exact ih1 h.1 x m; exact ih2 h.2 x m; subst m; exact h
  | ei s t ih1 ih2 => intro x m; simp [Sta.post] at m; rcases m with m | m | m; exact ih1 h.1 x m; exact ih2 h.2 x m; subst m; exact h
  | ne s ih => intro x m; simp [Sta.post] at m; rcases m with m | m; exact ih h x m; subst m; exact h
def L_ito (pl jd tt : Fn) : LS :=
  (sSeq (sSet 3 (eCall pl [] (aC (eV 0) aN)))
  (sRet (eCall jd [] (aC (eV 3) (aC (eLc (iE (eV 3)) (.nm 4) (tCm (dIn false) (eB dIx (eV 4) (eC (.int 0))) (eC tsts)) (eCall tt [] (aC (eV 4) (aC (eV 1) (aC (eV 2) aN)))) [4]) aN)))))
def ItoS (f : Fn) : Prop := ∀ {B : Nat} {vs : List Int} {s : Sta} {wd : Nat} {M : Mem}, Vals3 B vs → s.ok 10 → s.size ≤ 1000 → 1 ≤ wd → wd ≤ 8000 → ∃ M', f [s.enc, encV vs, .int wd] M = .ok (.bl (s.so (tsoV vs wd))) M' ∧ Kp N0 M M'
theorem itoS {f pl jd tt : Fn} (h1 : PlanOf pl) (h2 : Judged jd) (h3 : TestT tt) (h : ∀ d e g M, f [d, e, g] M = retF (L_ito pl jd tt [some d, some e, some g, none, none] M)) : ItoS f := fun {B vs s wd M} hv ho hs w1 w2 => by
  rw [h]
  obtain ⟨m, M1, e1, g1, k1⟩ := h1 (M := M) hs
  have hps := post_sub ho
  obtain ⟨acc, M2, e2, a1, a2, a3, k2⟩ := lc_gen2 (S := N0) (it := iE (eV 3)) (v := .loc m) (ds := s.post.map Sta.enc) (j := 4) (tt := (tCm (dIn false) (eB dIx (eV 4) (eC (.int 0))) (eC tsts))) (te := (eCall tt [] (aC (eV 4) (aC (eV 1) (aC (eV 2) aN))))) (vs := [4]) (L := [some s.enc, some (encV vs), some (.int wd), some (.loc m), none]) (M := M1) (M0 := M1)
    (fun i acc M' => acc = (truthsOf (tsoV vs wd) (s.post.take i)).map D.bl) (by simp only [bind_ok, bind_ex, outE_ok, outE_ex, retF_nx, retF_rt, retF_xc, x_optR, x_eV, x_eC, x_kB, x_eB, x_eU, x_eF, x_kM, x_eM, x_ift, x_iff, x_eIf, x_kTup, x_kLst, x_eTup, x_eLst, x_aN, x_kCc, x_kC, x_aC, x_tV, x_kCn, x_kCm, x_tCm, x_okB, x_tA, x_tO, x_kN, x_tN, x_tCh, x_kCj, x_kCi, x_kCh, x_eCh, x_kNb, x_kAn, x_kOr, x_kNo, x_eAnd, x_eOr, x_eNot, x_kCl, x_eCall, x_kS2, x_kS1, x_eSl, x_oN, x_asO, x_oS, x_mLoc, x_kML, x_eML, x_kM0, x_kMl0, x_eML0, x_truB, x_truI, x_asB, x_cnx, x_crt, x_cbk, x_cct, x_cxc, x_sSeq, x_sNil, x_sBrk, x_sCnt, x_kEx, x_kSet, x_sEx, x_sSet, x_okO, x_putsN, x_putsC, x_kPar, x_sPar, x_kRet, x_sRet, x_sRetN, x_sIf, x_kSb3, x_kSb2, x_kSb1, x_sSub, x_kAsg, x_sAsg, x_pnm, x_ptp, x_kFor, x_sFor, x_itT, x_iR1, x_kR2, x_iR2, x_iE, x_tY, x_wN, x_wC, List.getElem?_cons_zero, List.getElem?_cons_succ, List.set_cons_zero, List.set_cons_succ, List.append_nil, List.nil_append, List.cons_append, List.length_cons, List.length_nil, Nat.reduceLeDiff, Nat.reduceAdd, Bool.not_true, Bool.not_false, T_ok, x_kMt, x_sMt, x_mtN, x_mtC, x_sWh, true_or, true_and, and_true, if_true, if_false, itD, g1]) (Iw.loc (S := N0) g1 id) rfl (by rw [List.length_map, post_len]; exact Nat.le_trans hs (by decide))
    (fun i acc M' d hd hla hP kk hcm => by
      rw [List.getElem?_map] at hd
      cases hz : s.post[i]? with
      | none => rw [hz] at hd; cases hd
      | some z =>
        rw [hz] at hd
        cases hd
        have ht : truthsOf (tsoV vs wd) (s.post.take (i + 1)) = truthsOf (tsoV vs wd) (s.post.take i) ++ truthsOf (tsoV vs wd) [z] := by
          rw [List.take_add_one, hz, Option.toList_some]; unfold truthsOf; rw [List.filterMap_append]
        have q1 := fun M => (in_tsts z M).1
        have q2 := ix_word z
        cases z with
        | tst w a b =>
          have q3 : Sta.isT (.tst w a b) = true := rfl
          rw [q3] at q1
          refine ⟨true, M', by simp only [bind_ok, bind_ex, outE_ok, outE_ex, retF_nx, retF_rt, retF_xc, x_optR, x_eV, x_eC, x_kB, x_eB, x_eU, x_eF, x_kM, x_eM, x_ift, x_iff, x_eIf, x_kTup, x_kLst, x_eTup, x_eLst, x_aN, x_kCc, x_kC, x_aC, x_tV, x_kCn, x_kCm, x_tCm, x_okB, x_tA, x_tO, x_kN, x_tN, x_tCh, x_kCj, x_kCi, x_kCh, x_eCh, x_kNb, x_kAn, x_kOr, x_kNo, x_eAnd, x_eOr, x_eNot, x_kCl, x_eCall, x_kS2, x_kS1, x_eSl, x_oN, x_asO, x_oS, x_mLoc, x_kML, x_eML, x_kM0, x_kMl0, x_eML0, x_truB, x_truI, x_asB, x_cnx, x_crt, x_cbk, x_cct, x_cxc, x_sSeq, x_sNil, x_sBrk, x_sCnt, x_kEx, x_kSet, x_sEx, x_sSet, x_okO, x_putsN, x_putsC, x_kPar, x_sPar, x_kRet, x_sRet, x_sRetN, x_sIf, x_kSb3, x_kSb2, x_kSb1, x_sSub, x_kAsg, x_sAsg, x_pnm, x_ptp, x_kFor, x_sFor, x_itT, x_iR1, x_kR2, x_iR2, x_iE, x_tY, x_wN, x_wC, List.getElem?_cons_zero, List.getElem?_cons_succ, List.set_cons_zero, List.set_cons_succ, List.append_nil, List.nil_append, List.cons_append, List.length_cons, List.length_nil, Nat.reduceLeDiff, Nat.reduceAdd, Bool.not_true, Bool.not_false, T_ok, x_kMt, x_sMt, x_mtN, x_mtC, x_sWh, true_or, true_and, and_true, if_true, if_false, q1, q2], kk, hcm, .inr ⟨rfl, .bl (tsoV vs wd w a b), M', ?_, kk, hcm, ?_⟩⟩
          · have e3 : ∀ M, tt [(Sta.tst w a b).enc, encV vs, .int wd] M = .ok (.bl (tsoV vs wd w a b)) M := fun M => h3 hv (hps _ (List.mem_of_getElem? hz)) w1 w2
            simp only [bind_ok, bind_ex, outE_ok, outE_ex, retF_nx, retF_rt, retF_xc, x_optR, x_eV, x_eC, x_kB, x_eB, x_eU, x_eF, x_kM, x_eM, x_ift, x_iff, x_eIf, x_kTup, x_kLst, x_eTup, x_eLst, x_aN, x_kCc, x_kC, x_aC, x_tV, x_kCn, x_kCm, x_tCm, x_okB, x_tA, x_tO, x_kN, x_tN, x_tCh, x_kCj, x_kCi, x_kCh, x_eCh, x_kNb, x_kAn, x_kOr, x_kNo, x_eAnd, x_eOr, x_eNot, x_kCl, x_eCall, x_kS2, x_kS1, x_eSl, x_oN, x_asO, x_oS, x_mLoc, x_kML, x_eML, x_kM0, x_kMl0, x_eML0, x_truB, x_truI, x_asB, x_cnx, x_crt, x_cbk, x_cct, x_cxc, x_sSeq, x_sNil, x_sBrk, x_sCnt, x_kEx, x_kSet, x_sEx, x_sSet, x_okO, x_putsN, x_putsC, x_kPar, x_sPar, x_kRet, x_sRet, x_sRetN, x_sIf, x_kSb3, x_kSb2, x_kSb1, x_sSub, x_kAsg, x_sAsg, x_pnm, x_ptp, x_kFor, x_sFor, x_itT, x_iR1, x_kR2, x_iR2, x_iE, x_tY, x_wN, x_wC, List.getElem?_cons_zero, List.getElem?_cons_succ, List.set_cons_zero, List.set_cons_succ, List.append_nil, List.nil_append, List.cons_append, List.length_cons, List.length_nil, Nat.reduceLeDiff, Nat.reduceAdd, Bool.not_true, Bool.not_false, T_ok, x_kMt, x_sMt, x_mtN, x_mtC, x_sWh, true_or, true_and, and_true, if_true, if_false, e3]
          · rw [hP, ht, List.map_append]; rfl
        | _ =>
          refine ⟨false, M', by simp only [bind_ok, bind_ex, outE_ok, outE_ex, retF_nx, retF_rt, retF_xc, x_optR, x_eV, x_eC, x_kB, x_eB, x_eU, x_eF, x_kM, x_eM, x_ift, x_iff, x_eIf, x_kTup, x_kLst, x_eTup, x_eLst, x_aN, x_kCc, x_kC, x_aC, x_tV, x_kCn, x_kCm, x_tCm, x_okB, x_tA, x_tO, x_kN, x_tN, x_tCh, x_kCj, x_kCi, x_kCh, x_eCh, x_kNb, x_kAn, x_kOr, x_kNo, x_eAnd, x_eOr, x_eNot, x_kCl, x_eCall, x_kS2, x_kS1, x_eSl, x_oN, x_asO, x_oS, x_mLoc, x_kML, x_eML, x_kM0, x_kMl0, x_eML0, x_truB, x_truI, x_asB, x_cnx, x_crt, x_cbk, x_cct, x_cxc, x_sSeq, x_sNil, x_sBrk, x_sCnt, x_kEx, x_kSet, x_sEx, x_sSet, x_okO, x_putsN, x_putsC, x_kPar, x_sPar, x_kRet, x_sRet, x_sRetN, x_sIf, x_kSb3, x_kSb2, x_kSb1, x_sSub, x_kAsg, x_sAsg, x_pnm, x_ptp, x_kFor, x_sFor, x_itT, x_iR1, x_kR2, x_iR2, x_iE, x_tY, x_wN, x_wC, List.getElem?_cons_zero, List.getElem?_cons_succ, List.set_cons_zero, List.set_cons_succ, List.append_nil, List.nil_append, List.cons_append, List.length_cons, List.length_nil, Nat.reduceLeDiff, Nat.reduceAdd, Bool.not_true, Bool.not_false, T_ok, x_kMt, x_sMt, x_mtN, x_mtC, x_sWh, true_or, true_and, and_true, if_true, if_false, q1, q2]; rfl, kk, hcm, .inl ⟨rfl, ?_⟩⟩
          rw [hP, ht, List.map_append]; simp [truthsOf])
  rw [List.length_map, List.take_length] at a1
  subst a1
  obtain ⟨M3, e3, k3⟩ := h2 (g := tsoV vs wd) (s := s) (k2.at g1 id) a3 hs
  refine ⟨M3, ?_, (k1.trans k2).trans k3⟩
  simp only [L_ito, bind_ok, bind_ex, outE_ok, outE_ex, retF_nx, retF_rt, retF_xc, x_optR, x_eV, x_eC, x_kB, x_eB, x_eU, x_eF, x_kM, x_eM, x_ift, x_iff, x_eIf, x_kTup, x_kLst, x_eTup, x_eLst, x_aN, x_kCc, x_kC, x_aC, x_tV, x_kCn, x_kCm, x_tCm, x_okB, x_tA, x_tO, x_kN, x_tN, x_tCh, x_kCj, x_kCi, x_kCh, x_eCh, x_kNb, x_kAn, x_kOr, x_kNo, x_eAnd, x_eOr, x_eNot, x_kCl, x_eCall, x_kS2, x_kS1, x_eSl, x_oN, x_asO, x_oS, x_mLoc, x_kML, x_eML, x_kM0, x_kMl0, x_eML0, x_truB, x_truI, x_asB, x_cnx, x_crt, x_cbk, x_cct, x_cxc, x_sSeq, x_sNil, x_sBrk, x_sCnt, x_kEx, x_kSet, x_sEx, x_sSet, x_okO, x_putsN, x_putsC, x_kPar, x_sPar, x_kRet, x_sRet, x_sRetN, x_sIf, x_kSb3, x_kSb2, x_kSb1, x_sSub, x_kAsg, x_sAsg, x_pnm, x_ptp, x_kFor, x_sFor, x_itT, x_iR1, x_kR2, x_iR2, x_iE, x_tY, x_wN, x_wC, List.getElem?_cons_zero, List.getElem?_cons_succ, List.set_cons_zero, List.set_cons_succ, List.append_nil, List.nil_append, List.cons_append, List.length_cons, List.length_nil, Nat.reduceLeDiff, Nat.reduceAdd, Bool.not_true, Bool.not_false, T_ok, x_kMt, x_sMt, x_mtN, x_mtC, x_sWh, true_or, true_and, and_true, if_true, if_false, e1, e2, e3]
/-! ### the law's look -/
def Sta.tl : Sta → List Sta
  | .tst w a b => [.tst w a b]
  | .bo s t => s.tl ++ t.tl
  | .ei s t => s.tl ++ t.tl
  | .ne s => s.tl
theorem tl_kids (s : Sta) (h : s.isT = false) : s.tl = (s.kids.map Sta.tl).flatten := by cases s <;> simp [Sta.tl, Sta.kids, Sta.isT] at * 
theorem tl_tests (s : Sta) : s.tl.length = s.tests := by induction s <;> simp [Sta.tl, Sta.tests, *]
abbrev jws : D := .tup [.str "both", .str "either", .str "neither"]
theorem in_jws (s : Sta) (M : Mem) : dIn false (.str s.word) jws M = .ok (.bl (!s.isT)) M ∧ dIn true (.str s.word) jws M = .ok (.bl s.isT) M := by
  cases s with
  | tst w a b => cases w <;> exact ⟨rfl, rfl⟩
  | _ => exact ⟨rfl, rfl⟩
def L_ltests (self : Fn) : LS :=
  (sSeq (sIf (tCm (dIn false) (eB dIx (eV 0) (eC (.int 0))) (eTup (aC (eC (.str "both")) (aC (eC (.str "either")) (aC (eC (.str "neither")) aN)))))
  (sSeq (sSet 1 (eLst aN))
  (sSeq (sFor (iE (eSl (eV 0) (oS (eC (.int 1))) oN)) (.nm 2)
  (sSet 1 (eB dAdd (eV 1) (eCall self [] (aC (eV 2) aN)))))
  (sRet (eV 1))))
  sNil)
  (sRet (eLst (aC (eV 0) aN))))
def LTests (f : Fn) (s : Sta) : Prop := ∀ M : Mem, ∃ m M', f [s.enc] M = .ok (.loc m) M' ∧ M'[m]? = some (.lst (s.tl.map Sta.enc)) ∧ Kp N0 M M'
theorem flat_take {α β : Type} (f : α → List β) (l : List α) (i : Nat) (z : α) (h : l[i]? = some z) : ((l.take (i + 1)).map f).flatten = ((l.take i).map f).flatten ++ f z := by
  rw [List.take_add_one, h, Option.toList_some, List.map_append, List.flatten_append]; simp
theorem flat_len {α β : Type} (f : α → List β) (l : List α) (i : Nat) : ((l.take i).map f).flatten.length ≤ ((l.map f).flatten).length := by
  have : (l.map f).flatten = ((l.take i).map f).flatten ++ ((l.drop i).map f).flatten := by rw [← List.flatten_append, ← List.map_append, List.take_append_drop]
  rw [this, List.length_append]; omega
theorem ltests_step {f self : Fn} {s : Sta} (h : ∀ d M, f [d] M = retF (L_ltests self [some d, none, none] M)) (hs : s.tests ≤ 1000) (ih : ∀ t ∈ s.kids, LTests self t) : LTests f s := fun M => by
  rw [h]
  have q1 := fun M => (in_jws s M).1
  have q2 := ix_word s
  cases q : s.isT with
  | true =>
    rw [q] at q1
    have e : s.tl = [s] := by cases s <;> first | rfl | cases q
    refine ⟨M.length, M ++ [.lst [s.enc]], ?_, by rw [e]; exact push_at _ _, Kp.push _ _⟩
    simp only [L_ltests, bind_ok, bind_ex, outE_ok, outE_ex, retF_nx, retF_rt, retF_xc, x_optR, x_eV, x_eC, x_kB, x_eB, x_eU, x_eF, x_kM, x_eM, x_ift, x_iff, x_eIf, x_kTup, x_kLst, x_eTup, x_eLst, x_aN, x_kCc, x_kC, x_aC, x_tV, x_kCn, x_kCm, x_tCm, x_okB, x_tA, x_tO, x_kN, x_tN, x_tCh, x_kCj, x_kCi, x_kCh, x_eCh, x_kNb, x_kAn, x_kOr, x_kNo, x_eAnd, x_eOr, x_eNot, x_kCl, x_eCall, x_kS2, x_kS1, x_eSl, x_oN, x_asO, x_oS, x_mLoc, x_kML, x_eML, x_kM0, x_kMl0, x_eML0, x_truB, x_truI, x_asB, x_cnx, x_crt, x_cbk, x_cct, x_cxc, x_sSeq, x_sNil, x_sBrk, x_sCnt, x_kEx, x_kSet, x_sEx, x_sSet, x_okO, x_putsN, x_putsC, x_kPar, x_sPar, x_kRet, x_sRet, x_sRetN, x_sIf, x_kSb3, x_kSb2, x_kSb1, x_sSub, x_kAsg, x_sAsg, x_pnm, x_ptp, x_kFor, x_sFor, x_itT, x_iR1, x_kR2, x_iR2, x_iE, x_tY, x_wN, x_wC, List.getElem?_cons_zero, List.getElem?_cons_succ, List.set_cons_zero, List.set_cons_succ, List.append_nil, List.nil_append, List.cons_append, List.length_cons, List.length_nil, Nat.reduceLeDiff, Nat.reduceAdd, Bool.not_true, Bool.not_false, T_ok, x_kMt, x_sMt, x_mtN, x_mtC, x_sWh, true_or, true_and, and_true, if_true, if_false, q1, q2, Bool.not_true]
  | false =>
    rw [q] at q1
    obtain ⟨r, hr1, hr2⟩ := s.enc_head
    have hr := hr2 q
    have sl : ∀ M, dSl s.enc (some 1) none M = .ok (.tup (s.kids.map Sta.enc)) M := fun M => by rw [hr1, hr]; exact sl_tl
    have htl := tl_kids s q
    have W := sfor_R (S := N0) (it := iE (eSl (eV 0) (oS (eC (.int 1))) oN)) (v := .tup (s.kids.map Sta.enc)) (j := 2) (b := (sSet 1 (eB dAdd (eV 1) (eCall self [] (aC (eV 2) aN))))) (ds := s.kids.map Sta.enc) (L := [some s.enc, some (.loc M.length), none]) (M := M ++ [.lst []]) (M0 := M ++ [.lst []])
      (fun i L M' => ∃ (m : Nat) (y : Option D), L = [some s.enc, some (.loc m), y] ∧ M'[m]? = some (.lst ((((s.kids.take i).map Sta.tl).flatten).map Sta.enc)))
      (fun r M' => ∃ (m : Nat) (y : Option D), r = (.nx, [some s.enc, some (.loc m), y]) ∧ M'[m]? = some (.lst (s.tl.map Sta.enc)) ∧ Kp N0 (M ++ [.lst []]) M')
      (by simp only [bind_ok, bind_ex, outE_ok, outE_ex, retF_nx, retF_rt, retF_xc, x_optR, x_eV, x_eC, x_kB, x_eB, x_eU, x_eF, x_kM, x_eM, x_ift, x_iff, x_eIf, x_kTup, x_kLst, x_eTup, x_eLst, x_aN, x_kCc, x_kC, x_aC, x_tV, x_kCn, x_kCm, x_tCm, x_okB, x_tA, x_tO, x_kN, x_tN, x_tCh, x_kCj, x_kCi, x_kCh, x_eCh, x_kNb, x_kAn, x_kOr, x_kNo, x_eAnd, x_eOr, x_eNot, x_kCl, x_eCall, x_kS2, x_kS1, x_eSl, x_oN, x_asO, x_oS, x_mLoc, x_kML, x_eML, x_kM0, x_kMl0, x_eML0, x_truB, x_truI, x_asB, x_cnx, x_crt, x_cbk, x_cct, x_cxc, x_sSeq, x_sNil, x_sBrk, x_sCnt, x_kEx, x_kSet, x_sEx, x_sSet, x_okO, x_putsN, x_putsC, x_kPar, x_sPar, x_kRet, x_sRet, x_sRetN, x_sIf, x_kSb3, x_kSb2, x_kSb1, x_sSub, x_kAsg, x_sAsg, x_pnm, x_ptp, x_kFor, x_sFor, x_itT, x_iR1, x_kR2, x_iR2, x_iE, x_tY, x_wN, x_wC, List.getElem?_cons_zero, List.getElem?_cons_succ, List.set_cons_zero, List.set_cons_succ, List.append_nil, List.nil_append, List.cons_append, List.length_cons, List.length_nil, Nat.reduceLeDiff, Nat.reduceAdd, Bool.not_true, Bool.not_false, T_ok, x_kMt, x_sMt, x_mtN, x_mtC, x_sWh, true_or, true_and, and_true, if_true, if_false, sl, itD]) Iw.tup ⟨M.length, none, rfl, push_at _ _⟩
      (fun i L M' d hd ⟨m, y, hL, hm⟩ kk => by
        subst hL
        rw [List.getElem?_map] at hd
        cases hz : s.kids[i]? with
        | none => rw [hz] at hd; cases hd
        | some z =>
          rw [hz] at hd
          cases hd
          obtain ⟨m2, M2, e2, g2, k2⟩ := ih z (List.mem_of_getElem? hz) M'
          have hlen : (((((s.kids.take i).map Sta.tl).flatten).map Sta.enc).length + (z.tl.map Sta.enc).length) ≤ big := by
            have h1 := flat_len Sta.tl s.kids (i + 1)
            rw [flat_take _ _ _ _ hz, List.length_append, ← htl] at h1
            have h2 := tl_tests s
            rw [List.length_map, List.length_map]
            exact Nat.le_trans (show _ ≤ 1000 by omega) (by decide)
          simp only [bind_ok, bind_ex, outE_ok, outE_ex, retF_nx, retF_rt, retF_xc, x_optR, x_eV, x_eC, x_kB, x_eB, x_eU, x_eF, x_kM, x_eM, x_ift, x_iff, x_eIf, x_kTup, x_kLst, x_eTup, x_eLst, x_aN, x_kCc, x_kC, x_aC, x_tV, x_kCn, x_kCm, x_tCm, x_okB, x_tA, x_tO, x_kN, x_tN, x_tCh, x_kCj, x_kCi, x_kCh, x_eCh, x_kNb, x_kAn, x_kOr, x_kNo, x_eAnd, x_eOr, x_eNot, x_kCl, x_eCall, x_kS2, x_kS1, x_eSl, x_oN, x_asO, x_oS, x_mLoc, x_kML, x_eML, x_kM0, x_kMl0, x_eML0, x_truB, x_truI, x_asB, x_cnx, x_crt, x_cbk, x_cct, x_cxc, x_sSeq, x_sNil, x_sBrk, x_sCnt, x_kEx, x_kSet, x_sEx, x_sSet, x_okO, x_putsN, x_putsC, x_kPar, x_sPar, x_kRet, x_sRet, x_sRetN, x_sIf, x_kSb3, x_kSb2, x_kSb1, x_sSub, x_kAsg, x_sAsg, x_pnm, x_ptp, x_kFor, x_sFor, x_itT, x_iR1, x_kR2, x_iR2, x_iE, x_tY, x_wN, x_wC, List.getElem?_cons_zero, List.getElem?_cons_succ, List.set_cons_zero, List.set_cons_succ, List.append_nil, List.nil_append, List.cons_append, List.length_cons, List.length_nil, Nat.reduceLeDiff, Nat.reduceAdd, Bool.not_true, Bool.not_false, T_ok, x_kMt, x_sMt, x_mtN, x_mtC, x_sWh, true_or, true_and, and_true, if_true, if_false, e2, add_lst2 (k2.at hm id) g2 hlen]
          refine .inl ⟨⟨_, _, rfl, ?_⟩, (kk.trans k2).trans (Kp.push _ _)⟩
          rw [push_at, flat_take _ _ _ _ hz, List.map_append])
      (fun L M' ⟨m, y, hL, hm⟩ kk => ⟨m, y, by rw [hL], by rw [List.length_map, List.take_length, ← htl] at hm; exact hm, kk⟩)
    obtain ⟨r, M', e, m, y, rfl, hm, k⟩ := W.get
    refine ⟨m, M', ?_, hm, (Kp.push _ _).trans k⟩
    simp only [bind_ok, bind_ex, outE_ok, outE_ex, retF_nx, retF_rt, retF_xc, x_optR, x_eV, x_eC, x_kB, x_eB, x_eU, x_eF, x_kM, x_eM, x_ift, x_iff, x_eIf, x_kTup, x_kLst, x_eTup, x_eLst, x_aN, x_kCc, x_kC, x_aC, x_tV, x_kCn, x_kCm, x_tCm, x_okB, x_tA, x_tO, x_kN, x_tN, x_tCh, x_kCj, x_kCi, x_kCh, x_eCh, x_kNb, x_kAn, x_kOr, x_kNo, x_eAnd, x_eOr, x_eNot, x_kCl, x_eCall, x_kS2, x_kS1, x_eSl, x_oN, x_asO, x_oS, x_mLoc, x_kML, x_eML, x_kM0, x_kMl0, x_eML0, x_truB, x_truI, x_asB, x_cnx, x_crt, x_cbk, x_cct, x_cxc, x_sSeq, x_sNil, x_sBrk, x_sCnt, x_kEx, x_kSet, x_sEx, x_sSet, x_okO, x_putsN, x_putsC, x_kPar, x_sPar, x_kRet, x_sRet, x_sRetN, x_sIf, x_kSb3, x_kSb2, x_kSb1, x_sSub, x_kAsg, x_sAsg, x_pnm, x_ptp, x_kFor, x_sFor, x_itT, x_iR1, x_kR2, x_iR2, x_iE, x_tY, x_wN, x_wC, List.getElem?_cons_zero, List.getElem?_cons_succ, List.set_cons_zero, List.set_cons_succ, List.append_nil, List.nil_append, List.cons_append, List.length_cons, List.length_nil, Nat.reduceLeDiff, Nat.reduceAdd, Bool.not_true, Bool.not_false, T_ok, x_kMt, x_sMt, x_mtN, x_mtC, x_sWh, true_or, true_and, and_true, if_true, if_false, sl, itD] at e
    simp only [L_ltests, bind_ok, bind_ex, outE_ok, outE_ex, retF_nx, retF_rt, retF_xc, x_optR, x_eV, x_eC, x_kB, x_eB, x_eU, x_eF, x_kM, x_eM, x_ift, x_iff, x_eIf, x_kTup, x_kLst, x_eTup, x_eLst, x_aN, x_kCc, x_kC, x_aC, x_tV, x_kCn, x_kCm, x_tCm, x_okB, x_tA, x_tO, x_kN, x_tN, x_tCh, x_kCj, x_kCi, x_kCh, x_eCh, x_kNb, x_kAn, x_kOr, x_kNo, x_eAnd, x_eOr, x_eNot, x_kCl, x_eCall, x_kS2, x_kS1, x_eSl, x_oN, x_asO, x_oS, x_mLoc, x_kML, x_eML, x_kM0, x_kMl0, x_eML0, x_truB, x_truI, x_asB, x_cnx, x_crt, x_cbk, x_cct, x_cxc, x_sSeq, x_sNil, x_sBrk, x_sCnt, x_kEx, x_kSet, x_sEx, x_sSet, x_okO, x_putsN, x_putsC, x_kPar, x_sPar, x_kRet, x_sRet, x_sRetN, x_sIf, x_kSb3, x_kSb2, x_kSb1, x_sSub, x_kAsg, x_sAsg, x_pnm, x_ptp, x_kFor, x_sFor, x_itT, x_iR1, x_kR2, x_iR2, x_iE, x_tY, x_wN, x_wC, List.getElem?_cons_zero, List.getElem?_cons_succ, List.set_cons_zero, List.set_cons_succ, List.append_nil, List.nil_append, List.cons_append, List.length_cons, List.length_nil, Nat.reduceLeDiff, Nat.reduceAdd, Bool.not_true, Bool.not_false, T_ok, x_kMt, x_sMt, x_mtN, x_mtC, x_sWh, true_or, true_and, and_true, if_true, if_false, q1, q2, Bool.not_false, sl, itD, e]
where
  add_lst2 {a b : List D} {n m : Nat} {M : Mem} (ha : M[n]? = some (.lst a)) (hb : M[m]? = some (.lst b)) (h : a.length + b.length ≤ big) : dAdd (.loc n) (.loc m) M = .ok (.loc M.length) (M ++ [.lst (a ++ b)]) := by
    simp only [dAdd, ha, hb]; rw [if_pos h]
theorem kids_words {s t : Sta} (h : t ∈ s.kids) : t.words < s.words ∧ t.tests ≤ s.tests := by
  cases s <;> simp [Sta.kids] at h <;> simp only [Sta.words, Sta.tests] <;> (try rcases h with rfl | rfl) <;> (try subst h) <;> omega
theorem ltests_run {run : Nat → Nat → Fn} {i : Nat} (h : ∀ k d M, run (k + 1) i [d] M = retF (L_ltests (run k i) [some d, none, none] M)) : ∀ (n : Nat) (s : Sta) (k : Nat), s.words ≤ n → s.tests ≤ 1000 → LTests (run (k + n + 1) i) s
  | 0, s, k, hn, ht => ltests_step (h _) ht fun t m => absurd (kids_words m).1 (by omega)
  | n + 1, s, k, hn, ht => ltests_step (h _) ht fun t m => by
    rw [show k + (n + 1) = k + n + 1 by omega]
    exact ltests_run h n t k (by have := (kids_words m).1; omega) (by have := (kids_words m).2; omega)
def L_ljudge (self : Fn) : LS :=
  (sSeq (sIf (tCm (dIn true) (eB dIx (eV 0) (eC (.int 0))) (eTup (aC (eC (.str "both")) (aC (eC (.str "either")) (aC (eC (.str "neither")) aN)))))
  (sRet (eML mPop0 (eV 1) (aC (eC (.int 0)) aN)))
  sNil)
  (sSeq (sSet 2 (eLc (iE (eSl (eV 0) (oS (eC (.int 1))) oN)) (.nm 3) tY (eCall self [] (aC (eV 3) (aC (eV 1) aN))) [3]))
  (sSeq (sIf (tCm dEq (eB dIx (eV 0) (eC (.int 0))) (eC (.str "neither")))
  (sRet (eNot (eB dIx (eV 2) (eC (.int 0)))))
  sNil)
  (sRet (eIf (tCm dEq (eB dIx (eV 0) (eC (.int 0))) (eC (.str "both"))) ((eAnd (eB dIx (eV 2) (eC (.int 0))) (eB dIx (eV 2) (eC (.int 1))))) ((eOr (eB dIx (eV 2) (eC (.int 0))) (eB dIx (eV 2) (eC (.int 1))))))))))
def LJudge (g : Tw → Ex → Ex → Bool) (f : Fn) (s : Sta) : Prop := ∀ {M : Mem} {q : Nat} {rest : List D}, M[q]? = some (.lst ((truthsOf g s.tl).map D.bl ++ rest)) → ∃ M', f [s.enc, .loc q] M = .ok (.bl (s.so g)) M' ∧ M'[q]? = some (.lst rest) ∧ Kp (N1 q) M M'
theorem pop0_ok {M : Mem} {n : Nat} {d : D} {ds : List D} (h : M[n]? = some (.lst (d :: ds))) : mPop0 (.loc n) [.int 0] M = .ok d (M.set n (.lst ds)) := by simp only [mPop0, h]
theorem truths_append (g : Tw → Ex → Ex → Bool) (a b : List Sta) : truthsOf g (a ++ b) = truthsOf g a ++ truthsOf g b := by unfold truthsOf; rw [List.filterMap_append]
theorem so_kids (g : Tw → Ex → Ex → Bool) (s : Sta) (h : s.isT = false) : (s.word = "neither" ∧ ∃ a, s.kids.map (Sta.so g) = [a] ∧ s.so g = !a) ∨ (s.word = "both" ∧ ∃ a b, s.kids.map (Sta.so g) = [a, b] ∧ s.so g = (a && b)) ∨ (s.word = "either" ∧ ∃ a b, s.kids.map (Sta.so g) = [a, b] ∧ s.so g = (a || b)) := by
  cases s with
  | tst w a b => cases h
  | bo s t => exact .inr (.inl ⟨rfl, _, _, rfl, rfl⟩)
  | ei s t => exact .inr (.inr ⟨rfl, _, _, rfl, rfl⟩)
  | ne s => exact .inl ⟨rfl, _, rfl, rfl⟩
theorem ljudge_step {g : Tw → Ex → Ex → Bool} {f self : Fn} {s : Sta} (h : ∀ d e M, f [d, e] M = retF (L_ljudge self [some d, some e, none, none] M)) (ih : ∀ t ∈ s.kids, LJudge g self t) : LJudge g f s := fun {M q rest} hq => by
  rw [h]
  have q1 := fun M => (in_jws s M).2
  have q2 := ix_word s
  have hql := mem_lt hq
  cases z : s.isT with
  | true =>
    rw [z] at q1
    match s, z with
    | .tst w a b, _ =>
      refine ⟨M.set q (.lst rest), ?_, set_at hql, Kp.set⟩
      have hp := pop0_ok (d := .bl (g w a b)) (ds := rest) hq
      simp only [L_ljudge, bind_ok, bind_ex, outE_ok, outE_ex, retF_nx, retF_rt, retF_xc, x_optR, x_eV, x_eC, x_kB, x_eB, x_eU, x_eF, x_kM, x_eM, x_ift, x_iff, x_eIf, x_kTup, x_kLst, x_eTup, x_eLst, x_aN, x_kCc, x_kC, x_aC, x_tV, x_kCn, x_kCm, x_tCm, x_okB, x_tA, x_tO, x_kN, x_tN, x_tCh, x_kCj, x_kCi, x_kCh, x_eCh, x_kNb, x_kAn, x_kOr, x_kNo, x_eAnd, x_eOr, x_eNot, x_kCl, x_eCall, x_kS2, x_kS1, x_eSl, x_oN, x_asO, x_oS, x_mLoc, x_kML, x_eML, x_kM0, x_kMl0, x_eML0, x_truB, x_truI, x_asB, x_cnx, x_crt, x_cbk, x_cct, x_cxc, x_sSeq, x_sNil, x_sBrk, x_sCnt, x_kEx, x_kSet, x_sEx, x_sSet, x_okO, x_putsN, x_putsC, x_kPar, x_sPar, x_kRet, x_sRet, x_sRetN, x_sIf, x_kSb3, x_kSb2, x_kSb1, x_sSub, x_kAsg, x_sAsg, x_pnm, x_ptp, x_kFor, x_sFor, x_itT, x_iR1, x_kR2, x_iR2, x_iE, x_tY, x_wN, x_wC, List.getElem?_cons_zero, List.getElem?_cons_succ, List.set_cons_zero, List.set_cons_succ, List.append_nil, List.nil_append, List.cons_append, List.length_cons, List.length_nil, Nat.reduceLeDiff, Nat.reduceAdd, Bool.not_true, Bool.not_false, T_ok, x_kMt, x_sMt, x_mtN, x_mtC, x_sWh, true_or, true_and, and_true, if_true, if_false, q1, q2, hp]
      rfl
  | false =>
    rw [z] at q1
    obtain ⟨r, hr1, hr2⟩ := s.enc_head
    have hr := hr2 z
    have sl : ∀ M, dSl s.enc (some 1) none M = .ok (.tup (s.kids.map Sta.enc)) M := fun M => by rw [hr1, hr]; exact sl_tl
    have htl := tl_kids s z
    have hk2 : s.kids.length ≤ 2 := by cases s <;> simp [Sta.kids]
    obtain ⟨acc, M', e2, ⟨g1, g2⟩, g3, g4, g5⟩ := lc_gen (S := N1 q) (it := (iE (eSl (eV 0) (oS (eC (.int 1))) oN))) (v := .tup (s.kids.map Sta.enc)) (ds := s.kids.map Sta.enc) (j := 3) (te := (eCall self [] (aC (eV 3) (aC (eV 1) aN)))) (vs := [3]) (L := [some s.enc, some (.loc q), none, none]) (M := M) (M0 := M)
      (fun i acc M' => acc = (s.kids.take i).map (fun t => D.bl (t.so g)) ∧ M'[q]? = some (.lst ((truthsOf g (((s.kids.drop i).map Sta.tl).flatten)).map D.bl ++ rest))) (by simp only [bind_ok, bind_ex, outE_ok, outE_ex, retF_nx, retF_rt, retF_xc, x_optR, x_eV, x_eC, x_kB, x_eB, x_eU, x_eF, x_kM, x_eM, x_ift, x_iff, x_eIf, x_kTup, x_kLst, x_eTup, x_eLst, x_aN, x_kCc, x_kC, x_aC, x_tV, x_kCn, x_kCm, x_tCm, x_okB, x_tA, x_tO, x_kN, x_tN, x_tCh, x_kCj, x_kCi, x_kCh, x_eCh, x_kNb, x_kAn, x_kOr, x_kNo, x_eAnd, x_eOr, x_eNot, x_kCl, x_eCall, x_kS2, x_kS1, x_eSl, x_oN, x_asO, x_oS, x_mLoc, x_kML, x_eML, x_kM0, x_kMl0, x_eML0, x_truB, x_truI, x_asB, x_cnx, x_crt, x_cbk, x_cct, x_cxc, x_sSeq, x_sNil, x_sBrk, x_sCnt, x_kEx, x_kSet, x_sEx, x_sSet, x_okO, x_putsN, x_putsC, x_kPar, x_sPar, x_kRet, x_sRet, x_sRetN, x_sIf, x_kSb3, x_kSb2, x_kSb1, x_sSub, x_kAsg, x_sAsg, x_pnm, x_ptp, x_kFor, x_sFor, x_itT, x_iR1, x_kR2, x_iR2, x_iE, x_tY, x_wN, x_wC, List.getElem?_cons_zero, List.getElem?_cons_succ, List.set_cons_zero, List.set_cons_succ, List.append_nil, List.nil_append, List.cons_append, List.length_cons, List.length_nil, Nat.reduceLeDiff, Nat.reduceAdd, Bool.not_true, Bool.not_false, T_ok, x_kMt, x_sMt, x_mtN, x_mtC, x_sWh, true_or, true_and, and_true, if_true, if_false, sl, itD]) Iw.tup ⟨rfl, by rw [List.getElem?_append_left hql, hq, htl]; rfl⟩ (by rw [List.length_map]; exact Nat.le_trans hk2 (by decide))
      (fun i acc M' d hd hla ⟨hP, hm⟩ kk hcm => by
        rw [List.getElem?_map] at hd
        cases hz : s.kids[i]? with
        | none => rw [hz] at hd; cases hd
        | some t =>
          rw [hz] at hd
          cases hd
          have hi := (List.getElem?_eq_some_iff.mp hz).1
          have hdr : s.kids.drop i = t :: s.kids.drop (i + 1) := by
            rw [List.drop_eq_getElem_cons hi]; congr 1; rw [List.getElem?_eq_getElem hi] at hz; cases hz; rfl
          rw [hdr, List.map_cons, List.flatten_cons, truths_append, List.map_append, List.append_assoc] at hm
          obtain ⟨M2, e1, m2, k2⟩ := ih t (List.mem_of_getElem? hz) hm
          have hne : M.length ≠ q := by omega
          refine ⟨.bl (t.so g), M2, by simp only [bind_ok, bind_ex, outE_ok, outE_ex, retF_nx, retF_rt, retF_xc, x_optR, x_eV, x_eC, x_kB, x_eB, x_eU, x_eF, x_kM, x_eM, x_ift, x_iff, x_eIf, x_kTup, x_kLst, x_eTup, x_eLst, x_aN, x_kCc, x_kC, x_aC, x_tV, x_kCn, x_kCm, x_tCm, x_okB, x_tA, x_tO, x_kN, x_tN, x_tCh, x_kCj, x_kCi, x_kCh, x_eCh, x_kNb, x_kAn, x_kOr, x_kNo, x_eAnd, x_eOr, x_eNot, x_kCl, x_eCall, x_kS2, x_kS1, x_eSl, x_oN, x_asO, x_oS, x_mLoc, x_kML, x_eML, x_kM0, x_kMl0, x_eML0, x_truB, x_truI, x_asB, x_cnx, x_crt, x_cbk, x_cct, x_cxc, x_sSeq, x_sNil, x_sBrk, x_sCnt, x_kEx, x_kSet, x_sEx, x_sSet, x_okO, x_putsN, x_putsC, x_kPar, x_sPar, x_kRet, x_sRet, x_sRetN, x_sIf, x_kSb3, x_kSb2, x_kSb1, x_sSub, x_kAsg, x_sAsg, x_pnm, x_ptp, x_kFor, x_sFor, x_itT, x_iR1, x_kR2, x_iR2, x_iE, x_tY, x_wN, x_wC, List.getElem?_cons_zero, List.getElem?_cons_succ, List.set_cons_zero, List.set_cons_succ, List.append_nil, List.nil_append, List.cons_append, List.length_cons, List.length_nil, Nat.reduceLeDiff, Nat.reduceAdd, Bool.not_true, Bool.not_false, T_ok, x_kMt, x_sMt, x_mtN, x_mtC, x_sWh, true_or, true_and, and_true, if_true, if_false, e1], kk.trans k2, k2.at hcm hne, ?_, ?_⟩
          · rw [hP, List.take_add_one, hz, Option.toList_some, List.map_append]; rfl
          · rw [List.getElem?_set_ne hne]; exact m2)
    rw [List.length_map, List.take_length] at g1
    rw [List.length_map, List.drop_length] at g2
    have hne : M.length ≠ q := by omega
    have x0 : ∀ (i : Nat) (b : Bool), (s.kids.map (Sta.so g))[i]? = some b → dIx (.loc M.length) (.int (i : Nat)) M' = .ok (.bl b) M' := fun i b hb => ix_at g4 (by
      rw [g1, List.getElem?_map]
      rw [List.getElem?_map] at hb
      cases hz : s.kids[i]? with
      | none => rw [hz] at hb; cases hb
      | some t => rw [hz] at hb; cases hb; rfl)
    refine ⟨M', ?_, g2, g5⟩
    rcases so_kids g s z with ⟨w1, a, hk, hs⟩ | ⟨w1, a, b, hk, hs⟩ | ⟨w1, a, b, hk, hs⟩
    · rw [hk] at x0
      have y0 : dIx (.loc M.length) (.int 0) M' = .ok (.bl a) M' := x0 0 a rfl
      rw [w1] at q1 q2
      have n1 : ∀ M, dEq (.str "neither") (.str "neither") M = .ok (.bl true) M := fun _ => rfl
      rw [hs]
      simp only [L_ljudge, bind_ok, bind_ex, outE_ok, outE_ex, retF_nx, retF_rt, retF_xc, x_optR, x_eV, x_eC, x_kB, x_eB, x_eU, x_eF, x_kM, x_eM, x_ift, x_iff, x_eIf, x_kTup, x_kLst, x_eTup, x_eLst, x_aN, x_kCc, x_kC, x_aC, x_tV, x_kCn, x_kCm, x_tCm, x_okB, x_tA, x_tO, x_kN, x_tN, x_tCh, x_kCj, x_kCi, x_kCh, x_eCh, x_kNb, x_kAn, x_kOr, x_kNo, x_eAnd, x_eOr, x_eNot, x_kCl, x_eCall, x_kS2, x_kS1, x_eSl, x_oN, x_asO, x_oS, x_mLoc, x_kML, x_eML, x_kM0, x_kMl0, x_eML0, x_truB, x_truI, x_asB, x_cnx, x_crt, x_cbk, x_cct, x_cxc, x_sSeq, x_sNil, x_sBrk, x_sCnt, x_kEx, x_kSet, x_sEx, x_sSet, x_okO, x_putsN, x_putsC, x_kPar, x_sPar, x_kRet, x_sRet, x_sRetN, x_sIf, x_kSb3, x_kSb2, x_kSb1, x_sSub, x_kAsg, x_sAsg, x_pnm, x_ptp, x_kFor, x_sFor, x_itT, x_iR1, x_kR2, x_iR2, x_iE, x_tY, x_wN, x_wC, List.getElem?_cons_zero, List.getElem?_cons_succ, List.set_cons_zero, List.set_cons_succ, List.append_nil, List.nil_append, List.cons_append, List.length_cons, List.length_nil, Nat.reduceLeDiff, Nat.reduceAdd, Bool.not_true, Bool.not_false, T_ok, x_kMt, x_sMt, x_mtN, x_mtC, x_sWh, true_or, true_and, and_true, if_true, if_false, q1, q2, e2, n1, y0]
    · rw [hk] at x0
      have y0 : dIx (.loc M.length) (.int 0) M' = .ok (.bl a) M' := x0 0 a rfl
      have y1 : dIx (.loc M.length) (.int 1) M' = .ok (.bl b) M' := x0 1 b rfl
      rw [w1] at q1 q2
      have n1 : ∀ M, dEq (.str "both") (.str "neither") M = .ok (.bl false) M := fun _ => rfl
      have n2 : ∀ M, dEq (.str "both") (.str "both") M = .ok (.bl true) M := fun _ => rfl
      rw [hs]
      cases a with
      | true => simp only [L_ljudge, bind_ok, bind_ex, outE_ok, outE_ex, retF_nx, retF_rt, retF_xc, x_optR, x_eV, x_eC, x_kB, x_eB, x_eU, x_eF, x_kM, x_eM, x_ift, x_iff, x_eIf, x_kTup, x_kLst, x_eTup, x_eLst, x_aN, x_kCc, x_kC, x_aC, x_tV, x_kCn, x_kCm, x_tCm, x_okB, x_tA, x_tO, x_kN, x_tN, x_tCh, x_kCj, x_kCi, x_kCh, x_eCh, x_kNb, x_kAn, x_kOr, x_kNo, x_eAnd, x_eOr, x_eNot, x_kCl, x_eCall, x_kS2, x_kS1, x_eSl, x_oN, x_asO, x_oS, x_mLoc, x_kML, x_eML, x_kM0, x_kMl0, x_eML0, x_truB, x_truI, x_asB, x_cnx, x_crt, x_cbk, x_cct, x_cxc, x_sSeq, x_sNil, x_sBrk, x_sCnt, x_kEx, x_kSet, x_sEx, x_sSet, x_okO, x_putsN, x_putsC, x_kPar, x_sPar, x_kRet, x_sRet, x_sRetN, x_sIf, x_kSb3, x_kSb2, x_kSb1, x_sSub, x_kAsg, x_sAsg, x_pnm, x_ptp, x_kFor, x_sFor, x_itT, x_iR1, x_kR2, x_iR2, x_iE, x_tY, x_wN, x_wC, List.getElem?_cons_zero, List.getElem?_cons_succ, List.set_cons_zero, List.set_cons_succ, List.append_nil, List.nil_append, List.cons_append, List.length_cons, List.length_nil, Nat.reduceLeDiff, Nat.reduceAdd, Bool.not_true, Bool.not_false, T_ok, x_kMt, x_sMt, x_mtN, x_mtC, x_sWh, true_or, true_and, and_true, if_true, if_false, q1, q2, e2, n1, n2, y0, y1, Bool.true_and]
      | false => simp only [L_ljudge, bind_ok, bind_ex, outE_ok, outE_ex, retF_nx, retF_rt, retF_xc, x_optR, x_eV, x_eC, x_kB, x_eB, x_eU, x_eF, x_kM, x_eM, x_ift, x_iff, x_eIf, x_kTup, x_kLst, x_eTup, x_eLst, x_aN, x_kCc, x_kC, x_aC, x_tV, x_kCn, x_kCm, x_tCm, x_okB, x_tA, x_tO, x_kN, x_tN, x_tCh, x_kCj, x_kCi, x_kCh, x_eCh, x_kNb, x_kAn, x_kOr, x_kNo, x_eAnd, x_eOr, x_eNot, x_kCl, x_eCall, x_kS2, x_kS1, x_eSl, x_oN, x_asO, x_oS, x_mLoc, x_kML, x_eML, x_kM0, x_kMl0, x_eML0, x_truB, x_truI, x_asB, x_cnx, x_crt, x_cbk, x_cct, x_cxc, x_sSeq, x_sNil, x_sBrk, x_sCnt, x_kEx, x_kSet, x_sEx, x_sSet, x_okO, x_putsN, x_putsC, x_kPar, x_sPar, x_kRet, x_sRet, x_sRetN, x_sIf, x_kSb3, x_kSb2, x_kSb1, x_sSub, x_kAsg, x_sAsg, x_pnm, x_ptp, x_kFor, x_sFor, x_itT, x_iR1, x_kR2, x_iR2, x_iE, x_tY, x_wN, x_wC, List.getElem?_cons_zero, List.getElem?_cons_succ, List.set_cons_zero, List.set_cons_succ, List.append_nil, List.nil_append, List.cons_append, List.length_cons, List.length_nil, Nat.reduceLeDiff, Nat.reduceAdd, Bool.not_true, Bool.not_false, T_ok, x_kMt, x_sMt, x_mtN, x_mtC, x_sWh, true_or, true_and, and_true, if_true, if_false, q1, q2, e2, n1, n2, y0, y1, Bool.false_and]
    · rw [hk] at x0
      have y0 : dIx (.loc M.length) (.int 0) M' = .ok (.bl a) M' := x0 0 a rfl
      have y1 : dIx (.loc M.length) (.int 1) M' = .ok (.bl b) M' := x0 1 b rfl
      rw [w1] at q1 q2
      have n1 : ∀ M, dEq (.str "either") (.str "neither") M = .ok (.bl false) M := fun _ => rfl
      have n2 : ∀ M, dEq (.str "either") (.str "both") M = .ok (.bl false) M := fun _ => rfl
      rw [hs]
      cases a with
      | true => simp only [L_ljudge, bind_ok, bind_ex, outE_ok, outE_ex, retF_nx, retF_rt, retF_xc, x_optR, x_eV, x_eC, x_kB, x_eB, x_eU, x_eF, x_kM, x_eM, x_ift, x_iff, x_eIf, x_kTup, x_kLst, x_eTup, x_eLst, x_aN, x_kCc, x_kC, x_aC, x_tV, x_kCn, x_kCm, x_tCm, x_okB, x_tA, x_tO, x_kN, x_tN, x_tCh, x_kCj, x_kCi, x_kCh, x_eCh, x_kNb, x_kAn, x_kOr, x_kNo, x_eAnd, x_eOr, x_eNot, x_kCl, x_eCall, x_kS2, x_kS1, x_eSl, x_oN, x_asO, x_oS, x_mLoc, x_kML, x_eML, x_kM0, x_kMl0, x_eML0, x_truB, x_truI, x_asB, x_cnx, x_crt, x_cbk, x_cct, x_cxc, x_sSeq, x_sNil, x_sBrk, x_sCnt, x_kEx, x_kSet, x_sEx, x_sSet, x_okO, x_putsN, x_putsC, x_kPar, x_sPar, x_kRet, x_sRet, x_sRetN, x_sIf, x_kSb3, x_kSb2, x_kSb1, x_sSub, x_kAsg, x_sAsg, x_pnm, x_ptp, x_kFor, x_sFor, x_itT, x_iR1, x_kR2, x_iR2, x_iE, x_tY, x_wN, x_wC, List.getElem?_cons_zero, List.getElem?_cons_succ, List.set_cons_zero, List.set_cons_succ, List.append_nil, List.nil_append, List.cons_append, List.length_cons, List.length_nil, Nat.reduceLeDiff, Nat.reduceAdd, Bool.not_true, Bool.not_false, T_ok, x_kMt, x_sMt, x_mtN, x_mtC, x_sWh, true_or, true_and, and_true, if_true, if_false, q1, q2, e2, n1, n2, y0, y1, Bool.true_or]
      | false => simp only [L_ljudge, bind_ok, bind_ex, outE_ok, outE_ex, retF_nx, retF_rt, retF_xc, x_optR, x_eV, x_eC, x_kB, x_eB, x_eU, x_eF, x_kM, x_eM, x_ift, x_iff, x_eIf, x_kTup, x_kLst, x_eTup, x_eLst, x_aN, x_kCc, x_kC, x_aC, x_tV, x_kCn, x_kCm, x_tCm, x_okB, x_tA, x_tO, x_kN, x_tN, x_tCh, x_kCj, x_kCi, x_kCh, x_eCh, x_kNb, x_kAn, x_kOr, x_kNo, x_eAnd, x_eOr, x_eNot, x_kCl, x_eCall, x_kS2, x_kS1, x_eSl, x_oN, x_asO, x_oS, x_mLoc, x_kML, x_eML, x_kM0, x_kMl0, x_eML0, x_truB, x_truI, x_asB, x_cnx, x_crt, x_cbk, x_cct, x_cxc, x_sSeq, x_sNil, x_sBrk, x_sCnt, x_kEx, x_kSet, x_sEx, x_sSet, x_okO, x_putsN, x_putsC, x_kPar, x_sPar, x_kRet, x_sRet, x_sRetN, x_sIf, x_kSb3, x_kSb2, x_kSb1, x_sSub, x_kAsg, x_sAsg, x_pnm, x_ptp, x_kFor, x_sFor, x_itT, x_iR1, x_kR2, x_iR2, x_iE, x_tY, x_wN, x_wC, List.getElem?_cons_zero, List.getElem?_cons_succ, List.set_cons_zero, List.set_cons_succ, List.append_nil, List.nil_append, List.cons_append, List.length_cons, List.length_nil, Nat.reduceLeDiff, Nat.reduceAdd, Bool.not_true, Bool.not_false, T_ok, x_kMt, x_sMt, x_mtN, x_mtC, x_sWh, true_or, true_and, and_true, if_true, if_false, q1, q2, e2, n1, n2, y0, y1, Bool.false_or]
theorem ljudge_run {run : Nat → Nat → Fn} {i : Nat} {g : Tw → Ex → Ex → Bool} (h : ∀ k d e M, run (k + 1) i [d, e] M = retF (L_ljudge (run k i) [some d, some e, none, none] M)) : ∀ (n : Nat) (s : Sta) (k : Nat), s.words ≤ n → LJudge g (run (k + n + 1) i) s
  | 0, s, k, hn => by
    intro hq
    exact ljudge_step (s := s) (self := run (k + 0) i) (h _) (fun t m => absurd (kids_words m).1 (by omega)) hq
  | n + 1, s, k, hn => by
    intro hq
    have ih : ∀ t ∈ s.kids, LJudge g (run (k + (n + 1)) i) t := fun t m => by
      rw [show k + (n + 1) = k + n + 1 by omega]
      exact @fun M q rest => ljudge_run h n t k (by have := (kids_words m).1; omega)
    exact ljudge_step (s := s) (self := run (k + (n + 1)) i) (h _) ih hq
def L_lsigned (tw : Fn) : LS := (sRet (eIf (tCm (dCmpI fun i j => decide (j ≤ i)) (eV 0) (eCall tw [] (aC (eB dSub (eV 1) (eC (.int 1))) aN))) (eB dSub (eV 0) (eCall tw [] (aC (eV 1) aN))) (eV 0)))
theorem lsigned_ok {f tw : Fn} (ht : IsTwo tw) (h : ∀ d e M, f [d, e] M = retF (L_lsigned tw [some d, some e] M)) : Signed f := fun {x w M} h0 h1 hw hw2 => by
  rw [h]
  have hs : ∀ M, dSub (.int (w : Nat)) (.int 1) M = .ok (.int ((w - 1 : Nat) : Int)) M := fun M => by simp only [dSub]; congr 2; omega
  have t1 : ∀ M, tw [.int (w - 1 : Nat)] M = .ok (.int (2 ^ (w - 1))) M := fun M => ht (by omega)
  have t2 : ∀ M, tw [.int (w : Nat)] M = .ok (.int (2 ^ w)) M := fun M => ht (by omega)
  have su : ∀ a b M, dSub (.int a) (.int b) M = .ok (.int (a - b)) M := fun _ _ _ => rfl
  by_cases q : 2 ^ (w - 1) ≤ x
  · simp only [L_lsigned, bind_ok, bind_ex, outE_ok, outE_ex, retF_nx, retF_rt, retF_xc, x_optR, x_eV, x_eC, x_kB, x_eB, x_eU, x_eF, x_kM, x_eM, x_ift, x_iff, x_eIf, x_kTup, x_kLst, x_eTup, x_eLst, x_aN, x_kCc, x_kC, x_aC, x_tV, x_kCn, x_kCm, x_tCm, x_okB, x_tA, x_tO, x_kN, x_tN, x_tCh, x_kCj, x_kCi, x_kCh, x_eCh, x_kNb, x_kAn, x_kOr, x_kNo, x_eAnd, x_eOr, x_eNot, x_kCl, x_eCall, x_kS2, x_kS1, x_eSl, x_oN, x_asO, x_oS, x_mLoc, x_kML, x_eML, x_kM0, x_kMl0, x_eML0, x_truB, x_truI, x_asB, x_cnx, x_crt, x_cbk, x_cct, x_cxc, x_sSeq, x_sNil, x_sBrk, x_sCnt, x_kEx, x_kSet, x_sEx, x_sSet, x_okO, x_putsN, x_putsC, x_kPar, x_sPar, x_kRet, x_sRet, x_sRetN, x_sIf, x_kSb3, x_kSb2, x_kSb1, x_sSub, x_kAsg, x_sAsg, x_pnm, x_ptp, x_kFor, x_sFor, x_itT, x_iR1, x_kR2, x_iR2, x_iE, x_tY, x_wN, x_wC, List.getElem?_cons_zero, List.getElem?_cons_succ, List.set_cons_zero, List.set_cons_succ, List.append_nil, List.nil_append, List.cons_append, List.length_cons, List.length_nil, Nat.reduceLeDiff, Nat.reduceAdd, Bool.not_true, Bool.not_false, T_ok, x_kMt, x_sMt, x_mtN, x_mtC, x_sWh, true_or, true_and, and_true, if_true, if_false, hs, t1, t2, dCmpI, q, decide_true, su, sgn, if_true]
  · simp only [L_lsigned, bind_ok, bind_ex, outE_ok, outE_ex, retF_nx, retF_rt, retF_xc, x_optR, x_eV, x_eC, x_kB, x_eB, x_eU, x_eF, x_kM, x_eM, x_ift, x_iff, x_eIf, x_kTup, x_kLst, x_eTup, x_eLst, x_aN, x_kCc, x_kC, x_aC, x_tV, x_kCn, x_kCm, x_tCm, x_okB, x_tA, x_tO, x_kN, x_tN, x_tCh, x_kCj, x_kCi, x_kCh, x_eCh, x_kNb, x_kAn, x_kOr, x_kNo, x_eAnd, x_eOr, x_eNot, x_kCl, x_eCall, x_kS2, x_kS1, x_eSl, x_oN, x_asO, x_oS, x_mLoc, x_kML, x_eML, x_kM0, x_kMl0, x_eML0, x_truB, x_truI, x_asB, x_cnx, x_crt, x_cbk, x_cct, x_cxc, x_sSeq, x_sNil, x_sBrk, x_sCnt, x_kEx, x_kSet, x_sEx, x_sSet, x_okO, x_putsN, x_putsC, x_kPar, x_sPar, x_kRet, x_sRet, x_sRetN, x_sIf, x_kSb3, x_kSb2, x_kSb1, x_sSub, x_kAsg, x_sAsg, x_pnm, x_ptp, x_kFor, x_sFor, x_itT, x_iR1, x_kR2, x_iR2, x_iE, x_tY, x_wN, x_wC, List.getElem?_cons_zero, List.getElem?_cons_succ, List.set_cons_zero, List.set_cons_succ, List.append_nil, List.nil_append, List.cons_append, List.length_cons, List.length_nil, Nat.reduceLeDiff, Nat.reduceAdd, Bool.not_true, Bool.not_false, T_ok, x_kMt, x_sMt, x_mtN, x_mtC, x_sWh, true_or, true_and, and_true, if_true, if_false, hs, t1, t2, dCmpI, q, decide_false, sgn, if_false]
def L_lts (wo sg tw : Fn) : LS :=
  (sSeq (sSet 3 (eCall tw [] (aC (eV 2) aN)))
  (sSeq (sPar [4, 5] (aC (eB dMod (eCall wo [] (aC (eB dIx (eV 0) (eC (.int 1))) (aC (eV 1) aN))) (eV 3)) (aC (eB dMod (eCall wo [] (aC (eB dIx (eV 0) (eC (.int 2))) (aC (eV 1) aN))) (eV 3)) aN)))
  (tsE 4 5 (eB dIx (eV 0) (eC (.int 0))) sg 2)))
theorem ltestT {f wo sg tw : Fn} (hv : WholeOf wo) (hs : Signed sg) (ht : IsTwo tw) (h : ∀ d e g M, f [d, e, g] M = retF (L_lts wo sg tw [some d, some e, some g, none, none, none] M)) : TestT f := fun {B vs w a b wd M} hvs ho h1 h2 => by
  rw [h]
  have e1 : ∀ M, wo [a.enc, encV vs] M = .ok (.int (a.val vs)) M := fun M => hv hvs ho.1.1 ho.1.2 M
  have e2 : ∀ M, wo [b.enc, encV vs] M = .ok (.int (b.val vs)) M := fun M => hv hvs ho.2.1 ho.2.2 M
  have t2 : ∀ M, tw [.int (wd : Nat)] M = .ok (.int (2 ^ wd)) M := fun M => ht (by omega)
  have hp0 := pow_pos2 wd
  have m1 : ∀ (x : Int) M, dMod (.int x) (.int (2 ^ wd)) M = .ok (.int (x.fmod (2 ^ wd))) M := fun x M => mod_ok (by omega)
  have ra := fmod_rg (a.val vs) wd
  have rb := fmod_rg (b.val vs) wd
  have f1 := fun M => m1 (a.val vs) M
  have f2 := fun M => m1 (b.val vs) M
  unfold tsoV
  generalize (a.val vs).fmod (2 ^ wd) = x at f1 ra
  generalize (b.val vs).fmod (2 ^ wd) = y at f2 rb
  have s1 : ∀ M, sg [.int x, .int wd] M = .ok (.int (sgn wd x)) M := fun M => hs ra.1 ra.2 h1 h2
  have s2 : ∀ M, sg [.int y, .int wd] M = .ok (.int (sgn wd y)) M := fun M => hs rb.1 rb.2 h1 h2
  cases w with
  | eq =>
    have q1 : ∀ M, dEq (.str Tw.eq.word) (.str "equal") M = .ok (.bl true) M := fun _ => rfl
    simp only [L_lts, Sta.enc, bind_ok, bind_ex, outE_ok, outE_ex, retF_nx, retF_rt, retF_xc, x_optR, x_eV, x_eC, x_kB, x_eB, x_eU, x_eF, x_kM, x_eM, x_ift, x_iff, x_eIf, x_kTup, x_kLst, x_eTup, x_eLst, x_aN, x_kCc, x_kC, x_aC, x_tV, x_kCn, x_kCm, x_tCm, x_okB, x_tA, x_tO, x_kN, x_tN, x_tCh, x_kCj, x_kCi, x_kCh, x_eCh, x_kNb, x_kAn, x_kOr, x_kNo, x_eAnd, x_eOr, x_eNot, x_kCl, x_eCall, x_kS2, x_kS1, x_eSl, x_oN, x_asO, x_oS, x_mLoc, x_kML, x_eML, x_kM0, x_kMl0, x_eML0, x_truB, x_truI, x_asB, x_cnx, x_crt, x_cbk, x_cct, x_cxc, x_sSeq, x_sNil, x_sBrk, x_sCnt, x_kEx, x_kSet, x_sEx, x_sSet, x_okO, x_putsN, x_putsC, x_kPar, x_sPar, x_kRet, x_sRet, x_sRetN, x_sIf, x_kSb3, x_kSb2, x_kSb1, x_sSub, x_kAsg, x_sAsg, x_pnm, x_ptp, x_kFor, x_sFor, x_itT, x_iR1, x_kR2, x_iR2, x_iE, x_tY, x_wN, x_wC, List.getElem?_cons_zero, List.getElem?_cons_succ, List.set_cons_zero, List.set_cons_succ, List.append_nil, List.nil_append, List.cons_append, List.length_cons, List.length_nil, Nat.reduceLeDiff, Nat.reduceAdd, Bool.not_true, Bool.not_false, T_ok, x_kMt, x_sMt, x_mtN, x_mtC, x_sWh, true_or, true_and, and_true, if_true, if_false, ixa, ixb, ixc, t2, e1, e2, f1, f2, q1, eq_int, beq_dec, tso]
  | bel =>
    have q1 : ∀ M, dEq (.str Tw.bel.word) (.str "equal") M = .ok (.bl false) M := fun _ => rfl
    have q2 : ∀ M, dEq (.str Tw.bel.word) (.str "below") M = .ok (.bl true) M := fun _ => rfl
    simp only [L_lts, Sta.enc, bind_ok, bind_ex, outE_ok, outE_ex, retF_nx, retF_rt, retF_xc, x_optR, x_eV, x_eC, x_kB, x_eB, x_eU, x_eF, x_kM, x_eM, x_ift, x_iff, x_eIf, x_kTup, x_kLst, x_eTup, x_eLst, x_aN, x_kCc, x_kC, x_aC, x_tV, x_kCn, x_kCm, x_tCm, x_okB, x_tA, x_tO, x_kN, x_tN, x_tCh, x_kCj, x_kCi, x_kCh, x_eCh, x_kNb, x_kAn, x_kOr, x_kNo, x_eAnd, x_eOr, x_eNot, x_kCl, x_eCall, x_kS2, x_kS1, x_eSl, x_oN, x_asO, x_oS, x_mLoc, x_kML, x_eML, x_kM0, x_kMl0, x_eML0, x_truB, x_truI, x_asB, x_cnx, x_crt, x_cbk, x_cct, x_cxc, x_sSeq, x_sNil, x_sBrk, x_sCnt, x_kEx, x_kSet, x_sEx, x_sSet, x_okO, x_putsN, x_putsC, x_kPar, x_sPar, x_kRet, x_sRet, x_sRetN, x_sIf, x_kSb3, x_kSb2, x_kSb1, x_sSub, x_kAsg, x_sAsg, x_pnm, x_ptp, x_kFor, x_sFor, x_itT, x_iR1, x_kR2, x_iR2, x_iE, x_tY, x_wN, x_wC, List.getElem?_cons_zero, List.getElem?_cons_succ, List.set_cons_zero, List.set_cons_succ, List.append_nil, List.nil_append, List.cons_append, List.length_cons, List.length_nil, Nat.reduceLeDiff, Nat.reduceAdd, Bool.not_true, Bool.not_false, T_ok, x_kMt, x_sMt, x_mtN, x_mtC, x_sWh, true_or, true_and, and_true, if_true, if_false, ixa, ixb, ixc, t2, e1, e2, f1, f2, q1, q2, dCmpI, tso]
  | les =>
    have q1 : ∀ M, dEq (.str Tw.les.word) (.str "equal") M = .ok (.bl false) M := fun _ => rfl
    have q2 : ∀ M, dEq (.str Tw.les.word) (.str "below") M = .ok (.bl false) M := fun _ => rfl
    simp only [L_lts, Sta.enc, bind_ok, bind_ex, outE_ok, outE_ex, retF_nx, retF_rt, retF_xc, x_optR, x_eV, x_eC, x_kB, x_eB, x_eU, x_eF, x_kM, x_eM, x_ift, x_iff, x_eIf, x_kTup, x_kLst, x_eTup, x_eLst, x_aN, x_kCc, x_kC, x_aC, x_tV, x_kCn, x_kCm, x_tCm, x_okB, x_tA, x_tO, x_kN, x_tN, x_tCh, x_kCj, x_kCi, x_kCh, x_eCh, x_kNb, x_kAn, x_kOr, x_kNo, x_eAnd, x_eOr, x_eNot, x_kCl, x_eCall, x_kS2, x_kS1, x_eSl, x_oN, x_asO, x_oS, x_mLoc, x_kML, x_eML, x_kM0, x_kMl0, x_eML0, x_truB, x_truI, x_asB, x_cnx, x_crt, x_cbk, x_cct, x_cxc, x_sSeq, x_sNil, x_sBrk, x_sCnt, x_kEx, x_kSet, x_sEx, x_sSet, x_okO, x_putsN, x_putsC, x_kPar, x_sPar, x_kRet, x_sRet, x_sRetN, x_sIf, x_kSb3, x_kSb2, x_kSb1, x_sSub, x_kAsg, x_sAsg, x_pnm, x_ptp, x_kFor, x_sFor, x_itT, x_iR1, x_kR2, x_iR2, x_iE, x_tY, x_wN, x_wC, List.getElem?_cons_zero, List.getElem?_cons_succ, List.set_cons_zero, List.set_cons_succ, List.append_nil, List.nil_append, List.cons_append, List.length_cons, List.length_nil, Nat.reduceLeDiff, Nat.reduceAdd, Bool.not_true, Bool.not_false, T_ok, x_kMt, x_sMt, x_mtN, x_mtC, x_sWh, true_or, true_and, and_true, if_true, if_false, ixa, ixb, ixc, t2, e1, e2, f1, f2, q1, q2, s1, s2, dCmpI, tso]
def L_lso (lt lj ts : Fn) : LS :=
  (sRet (eCall lj [] (aC (eV 0) (aC (eLc (iE (eCall lt [] (aC (eV 0) aN))) (.nm 3) tY (eCall ts [] (aC (eV 3) (aC (eV 1) (aC (eV 2) aN)))) [3]) aN))))
theorem tl_isT (s : Sta) : ∀ t ∈ s.tl, ∃ w a b, t = .tst w a b := by
  induction s with
  | tst w a b => intro t m; simp [Sta.tl] at m; exact ⟨w, a, b, m⟩
  | bo s t ih1 ih2 => intro x m; rcases List.mem_append.mp m with m | m; exact ih1 x m; exact ih2 x m
  | ei s t ih1 ih2 => intro x m; rcases List.mem_append.mp m with m | m; exact ih1 x m; exact ih2 x m
  | ne s ih => exact ih
theorem tl_ok {n : Nat} {s : Sta} (h : s.ok n) : ∀ t ∈ s.tl, t.ok n := by
  induction s with
  | tst w a b => intro t m; simp [Sta.tl] at m; subst m; exact h
  | bo s t ih1 ih2 => intro x m; rcases List.mem_append.mp m with m | m; exact ih1 h.1 x m; exact ih2 h.2 x m
  | ei s t ih1 ih2 => intro x m; rcases List.mem_append.mp m with m | m; exact ih1 h.1 x m; exact ih2 h.2 x m
  | ne s ih => exact ih h
theorem lso_ok {f lt lj ts : Fn} {B : Nat} {vs : List Int} {s : Sta} {wd : Nat} {M : Mem} (h1 : LTests lt s) (h2 : LJudge (tsoV vs wd) lj s) (h3 : TestT ts) (h : ∀ d e g M, f [d, e, g] M = retF (L_lso lt lj ts [some d, some e, some g, none] M))
    (hv : Vals3 B vs) (ho : s.ok 10) (hs : s.tests ≤ 1000) (w1 : 1 ≤ wd) (w2 : wd ≤ 8000) : ∃ M', f [s.enc, encV vs, .int wd] M = .ok (.bl (s.so (tsoV vs wd))) M' ∧ Kp N0 M M' := by
  rw [h]
  obtain ⟨m, M1, e1, g1, k1⟩ := h1 M
  obtain ⟨acc, M2, e2, a1, a2, a3, k2⟩ := lc_gen (S := N0) (it := iE (eCall lt [] (aC (eV 0) aN))) (v := .loc m) (ds := s.tl.map Sta.enc) (j := 3) (te := (eCall ts [] (aC (eV 3) (aC (eV 1) (aC (eV 2) aN))))) (vs := [3]) (L := [some s.enc, some (encV vs), some (.int wd), none]) (M := M) (M0 := M1)
    (fun i acc M' => acc = (truthsOf (tsoV vs wd) (s.tl.take i)).map D.bl) (by simp only [bind_ok, bind_ex, outE_ok, outE_ex, retF_nx, retF_rt, retF_xc, x_optR, x_eV, x_eC, x_kB, x_eB, x_eU, x_eF, x_kM, x_eM, x_ift, x_iff, x_eIf, x_kTup, x_kLst, x_eTup, x_eLst, x_aN, x_kCc, x_kC, x_aC, x_tV, x_kCn, x_kCm, x_tCm, x_okB, x_tA, x_tO, x_kN, x_tN, x_tCh, x_kCj, x_kCi, x_kCh, x_eCh, x_kNb, x_kAn, x_kOr, x_kNo, x_eAnd, x_eOr, x_eNot, x_kCl, x_eCall, x_kS2, x_kS1, x_eSl, x_oN, x_asO, x_oS, x_mLoc, x_kML, x_eML, x_kM0, x_kMl0, x_eML0, x_truB, x_truI, x_asB, x_cnx, x_crt, x_cbk, x_cct, x_cxc, x_sSeq, x_sNil, x_sBrk, x_sCnt, x_kEx, x_kSet, x_sEx, x_sSet, x_okO, x_putsN, x_putsC, x_kPar, x_sPar, x_kRet, x_sRet, x_sRetN, x_sIf, x_kSb3, x_kSb2, x_kSb1, x_sSub, x_kAsg, x_sAsg, x_pnm, x_ptp, x_kFor, x_sFor, x_itT, x_iR1, x_kR2, x_iR2, x_iE, x_tY, x_wN, x_wC, List.getElem?_cons_zero, List.getElem?_cons_succ, List.set_cons_zero, List.set_cons_succ, List.append_nil, List.nil_append, List.cons_append, List.length_cons, List.length_nil, Nat.reduceLeDiff, Nat.reduceAdd, Bool.not_true, Bool.not_false, T_ok, x_kMt, x_sMt, x_mtN, x_mtC, x_sWh, true_or, true_and, and_true, if_true, if_false, e1, itD, g1]) (Iw.loc (S := N0) g1 id) rfl (by rw [List.length_map, tl_tests]; exact Nat.le_trans hs (by decide))
    (fun i acc M' d hd hla hP kk hcm => by
      rw [List.getElem?_map] at hd
      cases hz : s.tl[i]? with
      | none => rw [hz] at hd; cases hd
      | some z =>
        rw [hz] at hd
        cases hd
        have hzm := List.mem_of_getElem? hz
        obtain ⟨w, a, b, rfl⟩ := tl_isT s z hzm
        have e3 : ∀ M, ts [(Sta.tst w a b).enc, encV vs, .int wd] M = .ok (.bl (tsoV vs wd w a b)) M := fun M => h3 hv (tl_ok ho _ hzm) w1 w2
        refine ⟨.bl (tsoV vs wd w a b), M', by simp only [bind_ok, bind_ex, outE_ok, outE_ex, retF_nx, retF_rt, retF_xc, x_optR, x_eV, x_eC, x_kB, x_eB, x_eU, x_eF, x_kM, x_eM, x_ift, x_iff, x_eIf, x_kTup, x_kLst, x_eTup, x_eLst, x_aN, x_kCc, x_kC, x_aC, x_tV, x_kCn, x_kCm, x_tCm, x_okB, x_tA, x_tO, x_kN, x_tN, x_tCh, x_kCj, x_kCi, x_kCh, x_eCh, x_kNb, x_kAn, x_kOr, x_kNo, x_eAnd, x_eOr, x_eNot, x_kCl, x_eCall, x_kS2, x_kS1, x_eSl, x_oN, x_asO, x_oS, x_mLoc, x_kML, x_eML, x_kM0, x_kMl0, x_eML0, x_truB, x_truI, x_asB, x_cnx, x_crt, x_cbk, x_cct, x_cxc, x_sSeq, x_sNil, x_sBrk, x_sCnt, x_kEx, x_kSet, x_sEx, x_sSet, x_okO, x_putsN, x_putsC, x_kPar, x_sPar, x_kRet, x_sRet, x_sRetN, x_sIf, x_kSb3, x_kSb2, x_kSb1, x_sSub, x_kAsg, x_sAsg, x_pnm, x_ptp, x_kFor, x_sFor, x_itT, x_iR1, x_kR2, x_iR2, x_iE, x_tY, x_wN, x_wC, List.getElem?_cons_zero, List.getElem?_cons_succ, List.set_cons_zero, List.set_cons_succ, List.append_nil, List.nil_append, List.cons_append, List.length_cons, List.length_nil, Nat.reduceLeDiff, Nat.reduceAdd, Bool.not_true, Bool.not_false, T_ok, x_kMt, x_sMt, x_mtN, x_mtC, x_sWh, true_or, true_and, and_true, if_true, if_false, e3], kk, hcm, ?_⟩
        rw [hP, List.take_add_one, hz, Option.toList_some, truths_append, List.map_append]; rfl)
  rw [List.length_map, List.take_length] at a1
  subst a1
  obtain ⟨M3, e3, _, k3⟩ := h2 (M := M2) (q := M1.length) (rest := []) (by rw [List.append_nil]; exact a3)
  refine ⟨M3, ?_, ?_⟩
  · simp only [L_lso, bind_ok, bind_ex, outE_ok, outE_ex, retF_nx, retF_rt, retF_xc, x_optR, x_eV, x_eC, x_kB, x_eB, x_eU, x_eF, x_kM, x_eM, x_ift, x_iff, x_eIf, x_kTup, x_kLst, x_eTup, x_eLst, x_aN, x_kCc, x_kC, x_aC, x_tV, x_kCn, x_kCm, x_tCm, x_okB, x_tA, x_tO, x_kN, x_tN, x_tCh, x_kCj, x_kCi, x_kCh, x_eCh, x_kNb, x_kAn, x_kOr, x_kNo, x_eAnd, x_eOr, x_eNot, x_kCl, x_eCall, x_kS2, x_kS1, x_eSl, x_oN, x_asO, x_oS, x_mLoc, x_kML, x_eML, x_kM0, x_kMl0, x_eML0, x_truB, x_truI, x_asB, x_cnx, x_crt, x_cbk, x_cct, x_cxc, x_sSeq, x_sNil, x_sBrk, x_sCnt, x_kEx, x_kSet, x_sEx, x_sSet, x_okO, x_putsN, x_putsC, x_kPar, x_sPar, x_kRet, x_sRet, x_sRetN, x_sIf, x_kSb3, x_kSb2, x_kSb1, x_sSub, x_kAsg, x_sAsg, x_pnm, x_ptp, x_kFor, x_sFor, x_itT, x_iR1, x_kR2, x_iR2, x_iE, x_tY, x_wN, x_wC, List.getElem?_cons_zero, List.getElem?_cons_succ, List.set_cons_zero, List.set_cons_succ, List.append_nil, List.nil_append, List.cons_append, List.length_cons, List.length_nil, Nat.reduceLeDiff, Nat.reduceAdd, Bool.not_true, Bool.not_false, T_ok, x_kMt, x_sMt, x_mtN, x_mtC, x_sWh, true_or, true_and, and_true, if_true, if_false, e2, e3]
  · have kA := k1.trans k2
    refine ⟨Nat.le_trans kA.1 k3.1, fun i hi hn => ?_⟩
    rw [k3.2 i (Nat.lt_of_lt_of_le hi kA.1) (show ¬ i = M1.length by have := k1.1; omega), kA.2 i hi hn]
end G

namespace Lw
open PySem G
abbrev c_BOTH : D := .str "both"
abbrev c_EITHER : D := .str "either"
abbrev c_GREATEST_NUMBER : D := .int 1000
abbrev c_LEAVES : D := .tup [.str "var", .str "number"]
abbrev c_MOST_IN_ALL : D := .int 20
abbrev c_MOST_OPERATIONS : D := .int 10
abbrev c_MOST_SHIFT : D := .int 4
abbrev c_MOST_TESTS : D := .int 6
abbrev c_MOST_TIMES : D := .int 9
abbrev c_MOST_WORDS : D := .int 10
abbrev c_NEITHER : D := .str "neither"
abbrev c_PAIRED : D := .tup [.str "and", .str "or", .str "xor", .str "plus", .str "minus"]
abbrev c_TESTS : D := .tup [.str "equal", .str "below", .str "less"]
abbrev c_VARIABLES : D := .int 3
abbrev dd_need_values_1 : List D := [.int 3]
abbrev dd_need_width_1 : List D := [.int 2000]
/-- is_integer(thing) -/
def B_is_integer (c : Nat → Fn) : LS :=
  (sRet ((eAnd (eF (bIsi "int") (aC (eV 0) aN)) (eNot (eF (bIsi "bool") (aC (eV 0) aN))))))
/-- is_between(thing, low, high) -/
def B_is_between (c : Nat → Fn) : LS :=
  (sRet ((eAnd (eCall (c 0) [] (aC (eV 0) aN)) (eCh (dCmpI fun i j => decide (i ≤ j)) (dCmpI fun i j => decide (i ≤ j)) (eV 1) (eV 0) (eV 2)))))
/-- parts_of(thing) -/
def B_parts_of (c : Nat → Fn) : LS :=
  (sSeq (sIf ((tO (tN (tV (eF (bIsi "tuple") (aC (eV 0) aN)))) (tO (tCm (dIn true) (eF bLen (aC (eV 0) aN)) (eTup (aC (eC (.int 2)) (aC (eC (.int 3)) aN)))) (tN (tV (eF (bIsi "str") (aC (eB dIx (eV 0) (eC (.int 0))) aN)))))))
  (sRet (eC .non))
  sNil)
  (sSeq (sPar [1, 2] (aC (eB dIx (eV 0) (eC (.int 0))) (aC (eSl (eV 0) (oS (eC (.int 1))) oN) aN)))
  (sSeq (sIf ((tA (tCm (dIn false) (eV 1) (eC c_LEAVES)) (tCm dEq (eF bLen (aC (eV 2) aN)) (eC (.int 1)))))
  (sSeq (sSet 3 (eIf (tCm dEq (eV 1) (eC (.str "var"))) (eTup (aC (eC (.int 0)) (aC (eB dSub (eC c_VARIABLES) (eC (.int 1))) aN))) (eTup (aC (eB dSub (eC (.int 0)) (eC c_GREATEST_NUMBER)) (aC (eC c_GREATEST_NUMBER) aN)))))
  (sRet (eIf (tV (eCall (c 1) [] (aC (eB dIx (eV 2) (eC (.int 0))) (aC (eB dIx (eV 3) (eC (.int 0))) (aC (eB dIx (eV 3) (eC (.int 1))) aN))))) (eTup aN) (eC .non))))
  sNil)
  (sSeq (sIf ((tO ((tA (tCm dEq (eV 1) (eC (.str "not"))) (tCm dEq (eF bLen (aC (eV 2) aN)) (eC (.int 1))))) ((tA (tCm (dIn false) (eV 1) (eC c_PAIRED)) (tCm dEq (eF bLen (aC (eV 2) aN)) (eC (.int 2)))))))
  (sRet (eV 2))
  sNil)
  (sSeq (sIf ((tA (tCm dEq (eV 1) (eC (.str "shift"))) (tA (tCm dEq (eF bLen (aC (eV 2) aN)) (eC (.int 2))) (tV (eCall (c 1) [] (aC (eB dIx (eV 2) (eC (.int 1))) (aC (eC (.int 1)) (aC (eC c_MOST_SHIFT) aN))))))))
  (sRet (eSl (eV 2) oN (oS (eC (.int 1)))))
  sNil)
  (sSeq (sIf ((tA (tCm dEq (eV 1) (eC (.str "times"))) (tA (tCm dEq (eF bLen (aC (eV 2) aN)) (eC (.int 2))) (tV (eCall (c 1) [] (aC (eB dIx (eV 2) (eC (.int 0))) (aC (eB dSub (eC (.int 0)) (eC c_MOST_TIMES)) (aC (eC c_MOST_TIMES) aN))))))))
  (sRet (eSl (eV 2) (oS (eC (.int 1))) oN))
  sNil)
  (sRet (eC .non))))))))
/-- counted(thing, most) -/
def B_counted (c : Nat → Fn) : LS :=
  (sSeq (sPar [2, 3] (aC (eC (.int 0)) (aC (eLst (aC (eV 0) aN)) aN)))
  (sSeq (sWh 1000000 (tCm dNe (eV 3) (eLst aN))
  (sSeq (sSet 4 (eCall (c 2) [] (aC (eML0 mPop (eV 3)) aN)))
  (sSeq (sIf (tCm dIsN (eV 4) (eC .non))
  (sRet (eC .non))
  sNil)
  (sSeq (sSet 2 (eB dAdd (eV 2) (eF bInt (aC (eB dNe (eV 4) (eTup aN)) aN))))
  (sSeq (sIf (tCm (dCmpI fun i j => decide (j < i)) (eV 2) (eV 1))
  (sRet (eC .non))
  sNil)
  (sEx (eML mExt (eV 3) (aC (eF bList (aC (eV 4) aN)) aN))))))))
  (sRet (eV 2))))
/-- paired(word, one, other) -/
def B_paired (c : Nat → Fn) : LS :=
  (sSeq (sMt (eV 0) ((.str "and", (sRet (eB (dI Builtin.bitAnd) (eV 1) (eV 2)))) ::
  ((.str "or", (sRet (eB (dI Builtin.bitOr) (eV 1) (eV 2)))) ::
  ((.str "xor", (sRet (eB (dI Builtin.bitXor) (eV 1) (eV 2)))) ::
  ((.str "plus", (sRet (eB dAdd (eV 1) (eV 2)))) ::
  [])))))
  (sRet (eB dSub (eV 1) (eV 2))))
/-- whole_of(expression, values) -/
def B_whole_of (c : Nat → Fn) : LS :=
  (sSeq (sSet 2 (eB dIx (eV 0) (eC (.int 0))))
  (sSeq (sMt (eV 2) ((.str "var", (sRet (eB dIx (eV 1) (eB dIx (eV 0) (eC (.int 1)))))) ::
  ((.str "number", (sRet (eB dIx (eV 0) (eC (.int 1))))) ::
  ((.str "not", (sRet (eB dSub (eU dNeg (eC (.int 1))) (eCall (c 5) [] (aC (eB dIx (eV 0) (eC (.int 1))) (aC (eV 1) aN)))))) ::
  ((.str "shift", (sRet (eB dShl (eCall (c 5) [] (aC (eB dIx (eV 0) (eC (.int 1))) (aC (eV 1) aN))) (eB dIx (eV 0) (eC (.int 2)))))) ::
  ((.str "times", (sRet (eB dMul (eB dIx (eV 0) (eC (.int 1))) (eCall (c 5) [] (aC (eB dIx (eV 0) (eC (.int 2))) (aC (eV 1) aN)))))) ::
  []))))))
  (sRet (eCall (c 4) [] (aC (eV 2) (aC (eCall (c 5) [] (aC (eB dIx (eV 0) (eC (.int 1))) (aC (eV 1) aN))) (aC (eCall (c 5) [] (aC (eB dIx (eV 0) (eC (.int 2))) (aC (eV 1) aN))) aN)))))))
/-- value_of(expression, values, width) -/
def B_value_of (c : Nat → Fn) : LS :=
  (sRet (eB dMod (eCall (c 5) [] (aC (eV 0) (aC (eV 1) aN))) (eB dShl (eC (.int 1)) (eV 2))))
/-- need_values(thing, many) -/
def B_need_values (c : Nat → Fn) : LS :=
  (sIf ((tO (tN (tV (eF (bIsi "tuple") (aC (eV 0) aN)))) (tO (tCm dNe (eF bLen (aC (eV 0) aN)) (eV 1)) (tN (tV (eF bAll (aC (eLc (iE (eV 0)) (.nm 2) tY (eCall (c 0) [] (aC (eV 2) aN)) [2]) aN)))))))
  (sNo)
  sNil)
/-- need_width(thing, most) -/
def B_need_width (c : Nat → Fn) : LS :=
  (sIf (tN (tV (eCall (c 1) [] (aC (eV 0) (aC (eC (.int 1)) (aC (eV 1) aN))))))
  (sNo)
  sNil)
/-- operations_in(thing) -/
def B_operations_in (c : Nat → Fn) : LS :=
  (sSeq (sIf ((tO (tCm (dIn true) (eB dIx (eV 0) (eC (.int 0))) (eC c_TESTS)) (tCm dNe (eF bLen (aC (eV 0) aN)) (eC (.int 3)))))
  (sRet (eC .non))
  sNil)
  (sSeq (sSet 1 (eLc (iE (eSl (eV 0) (oS (eC (.int 1))) oN)) (.nm 2) tY (eCall (c 3) [] (aC (eV 2) (aC (eC c_MOST_OPERATIONS) aN))) [2]))
  (sRet (eIf (tCm (dIn false) (eC .non) (eV 1)) (eC .non) (eF bSum (aC (eV 1) aN))))))
/-- is_joined(thing) -/
def B_is_joined (c : Nat → Fn) : LS :=
  (sRet ((eOr ((eAnd (eB (dIn false) (eB dIx (eV 0) (eC (.int 0))) (eTup (aC (eC c_BOTH) (aC (eC c_EITHER) aN)))) (eB dEq (eF bLen (aC (eV 0) aN)) (eC (.int 3))))) ((eAnd (eB dEq (eB dIx (eV 0) (eC (.int 0))) (eC c_NEITHER)) (eB dEq (eF bLen (aC (eV 0) aN)) (eC (.int 2))))))))
/-- is_statement(thing) -/
def B_is_statement (c : Nat → Fn) : LS :=
  (sSeq (sAsg (.tp [1, 2, 3, 4]) (eTup (aC (eC (.int 0)) (aC (eC (.int 0)) (aC (eC (.int 0)) (aC (eLst (aC (eV 0) aN)) aN))))))
  (sSeq (sWh 1000000 (tCm dNe (eV 4) (eLst aN))
  (sSeq (sSet 5 (eML0 mPop (eV 4)))
  (sSeq (sIf ((tO (tN (tV (eF (bIsi "tuple") (aC (eV 5) aN)))) (tO (tCm dEq (eV 5) (eTup aN)) (tN (tV (eF (bIsi "str") (aC (eB dIx (eV 5) (eC (.int 0))) aN)))))))
  (sRet (eC (.bl false)))
  sNil)
  (sSeq (sSet 6 (eCall (c 9) [] (aC (eV 5) aN)))
  (sSeq (sIf ((tA (tCm dIsN (eV 6) (eC .non)) (tN (tV (eCall (c 10) [] (aC (eV 5) aN))))))
  (sRet (eC (.bl false)))
  sNil)
  (sSeq (sIf (tCm dIsN (eV 6) (eC .non))
  (sSeq (sSet 2 (eB dAdd (eV 2) (eC (.int 1))))
  (sEx (eML mExt (eV 4) (aC (eF bList (aC (eSl (eV 5) (oS (eC (.int 1))) oN) aN)) aN))))
  (sSeq (sSet 1 (eB dAdd (eV 1) (eC (.int 1))))
  (sSet 3 (eB dAdd (eV 3) (eV 6)))))
  (sIf ((tO (tCm (dCmpI fun i j => decide (j < i)) (eV 1) (eC c_MOST_TESTS)) (tO (tCm (dCmpI fun i j => decide (j < i)) (eV 2) (eC c_MOST_WORDS)) (tCm (dCmpI fun i j => decide (j < i)) (eV 3) (eC c_MOST_IN_ALL)))))
  (sRet (eC (.bl false)))
  sNil)))))))
  (sRet (eC (.bl true)))))
/-- need_statement(thing) -/
def B_need_statement (c : Nat → Fn) : LS :=
  (sIf (tN (tV (eCall (c 11) [] (aC (eV 0) aN))))
  (sNo)
  sNil)
/-- plan_of(statement) -/
def B_plan_of (c : Nat → Fn) : LS :=
  (sSeq (sPar [1, 2] (aC (eLst aN) (aC (eLst (aC (eV 0) aN)) aN)))
  (sSeq (sWh 1000000 (tCm dNe (eV 2) (eLst aN))
  (sSeq (sSet 3 (eML0 mPop (eV 2)))
  (sSeq (sEx (eML mApp (eV 1) (aC (eV 3) aN)))
  (sIf (tCm (dIn true) (eB dIx (eV 3) (eC (.int 0))) (eC c_TESTS))
  (sEx (eML mExt (eV 2) (aC (eF bList (aC (eSl (eV 3) (oS (eC (.int 1))) oN) aN)) aN)))
  sNil))))
  (sRet (eU dRev (eV 1)))))
/-- judged(plan, truths) -/
def B_judged (c : Nat → Fn) : LS :=
  (sSeq (sPar [2, 3] (aC (eLst aN) (aC (eC (.int 0)) aN)))
  (sSeq (sFor (iE (eV 0)) (.nm 4)
  (sIf (tCm (dIn false) (eB dIx (eV 4) (eC (.int 0))) (eC c_TESTS))
  (sSeq (sEx (eML mApp (eV 2) (aC (eB dIx (eV 1) (eV 3)) aN)))
  (sSet 3 (eB dAdd (eV 3) (eC (.int 1)))))
  (sIf (tCm dEq (eB dIx (eV 4) (eC (.int 0))) (eC c_NEITHER))
  (sEx (eML mApp (eV 2) (aC (eNot (eML0 mPop (eV 2))) aN)))
  (sSeq (sPar [5, 6] (aC (eML0 mPop (eV 2)) (aC (eML0 mPop (eV 2)) aN)))
  (sEx (eML mApp (eV 2) (aC (eIf (tCm dEq (eB dIx (eV 4) (eC (.int 0))) (eC c_BOTH)) ((eAnd (eV 6) (eV 5))) ((eOr (eV 6) (eV 5)))) aN)))))))
  (sRet (eB dIx (eV 2) (eC (.int 0))))))
/-- signed(number, width) -/
def B_signed (c : Nat → Fn) : LS :=
  (sRet (eIf (tCm dEq (eB dShr (eV 0) (eB dSub (eV 1) (eC (.int 1)))) (eC (.int 1))) (eB dSub (eV 0) (eB dShl (eC (.int 1)) (eV 1))) (eV 0)))
/-- is_test_true(test, values, width) -/
def B_is_test_true (c : Nat → Fn) : LS :=
  (sSeq (sPar [3, 4] (aC (eCall (c 6) [] (aC (eB dIx (eV 0) (eC (.int 1))) (aC (eV 1) (aC (eV 2) aN)))) (aC (eCall (c 6) [] (aC (eB dIx (eV 0) (eC (.int 2))) (aC (eV 1) (aC (eV 2) aN)))) aN)))
  (sSeq (sIf (tCm dEq (eB dIx (eV 0) (eC (.int 0))) (eC (.str "equal")))
  (sRet (eB dEq (eV 3) (eV 4)))
  sNil)
  (sRet (eIf (tCm dEq (eB dIx (eV 0) (eC (.int 0))) (eC (.str "below"))) (eB (dCmpI fun i j => decide (i < j)) (eV 3) (eV 4)) (eB (dCmpI fun i j => decide (i < j)) (eCall (c 15) [] (aC (eV 3) (aC (eV 2) aN))) (eCall (c 15) [] (aC (eV 4) (aC (eV 2) aN))))))))
/-- is_true_of(statement, values, width) -/
def B_is_true_of (c : Nat → Fn) : LS :=
  (sSeq (sSet 3 (eCall (c 13) [] (aC (eV 0) aN)))
  (sRet (eCall (c 14) [] (aC (eV 3) (aC (eLc (iE (eV 3)) (.nm 4) (tCm (dIn false) (eB dIx (eV 4) (eC (.int 0))) (eC c_TESTS)) (eCall (c 16) [] (aC (eV 4) (aC (eV 1) (aC (eV 2) aN)))) [4]) aN)))))
/-- is_true(statement, values, width) -/
def B_is_true (c : Nat → Fn) : LS :=
  (sSeq (sEx (eCall (c 12) [] (aC (eV 0) aN)))
  (sSeq (sEx (eCall (c 7) dd_need_values_1 (aC (eV 1) aN)))
  (sSeq (sEx (eCall (c 8) dd_need_width_1 (aC (eV 2) aN)))
  (sRet (eCall (c 17) [] (aC (eV 0) (aC (eV 1) (aC (eV 2) aN))))))))
/-- _law_cell(_law_script, _law_k) -/
def B_law_cell (c : Nat → Fn) : LS :=
  (sSeq (sIf (tCm (dCmpI fun i j => decide (i < j)) (eV 1) (eF bLen (aC (eV 0) aN)))
  (sRet (eB dIx (eV 0) (eV 1)))
  sNil)
  (sRet (eC (.int 0))))
/-- _law_pen(_law_cell_here) -/
def B_law_pen (c : Nat → Fn) : LS :=
  (sRet (eLst (aC (eF bMax (aC (eC (.int 0)) (aC (eB dSub (eV 0) (eB dPow (eC (.int 10)) (eC (.int 18)))) aN))) (aC (eB dAdd (eB dMod (eV 0) (eC (.int 2147483629))) (eC (.int 1))) (aC (eC (.int 0)) aN)))))
/-- _law_draw(_law_pen_here, _law_many) -/
def B_law_draw (c : Nat → Fn) : LS :=
  (sSeq (sIf (tCm (dCmpI fun i j => decide (j < i)) (eB dIx (eV 0) (eC (.int 0))) (eC (.int 0)))
  (sSeq (sSet 2 (eB dMod (eB dIx (eV 0) (eC (.int 0))) (eV 1)))
  (sSeq (sSub (eV 0) (eC (.int 0)) (eB dDiv (eB dIx (eV 0) (eC (.int 0))) (eV 1)))
  (sRet (eV 2))))
  sNil)
  (sSeq (sSub (eV 0) (eC (.int 2)) (eB dAdd (eB dIx (eV 0) (eC (.int 2))) (eC (.int 1))))
  (sSeq (sSub (eV 0) (eC (.int 1)) (eB dMod (eB dAdd (eB dAdd (eB dMul (eB dIx (eV 0) (eC (.int 1))) (eC (.int 48271))) (eB dMul (eC (.int 1009)) (eB dIx (eV 0) (eC (.int 2))))) (eC (.int 7))) (eC (.int 2147483647))))
  (sSeq (sSet 3 (eB dMod (eB dAdd (eB dAdd (eB dMul (eB dIx (eV 0) (eC (.int 1))) (eB dIx (eV 0) (eC (.int 1)))) (eB dMul (eC (.int 69621)) (eB dIx (eV 0) (eC (.int 1))))) (eC (.int 11))) (eC (.int 2147483629))))
  (sSeq (sSet 3 (eB dMod (eB dAdd (eB dMul (eV 3) (eV 3)) (eB dMul (eC (.int 40014)) (eV 3))) (eC (.int 2147483587))))
  (sRet (eB dMod (eB dDiv (eV 3) (eC (.int 16))) (eV 1))))))))
/-- _law_pick(_law_pen_here, _law_these) -/
def B_law_pick (c : Nat → Fn) : LS :=
  (sRet (eB dIx (eV 1) (eCall (c 21) [] (aC (eV 0) (aC (eF bLen (aC (eV 1) aN)) aN)))))
/-- _law_same(_law_found, _law_due) -/
def B_law_same (c : Nat → Fn) : LS :=
  (sRet (eB dEq (eF bRepr (aC (eV 0) aN)) (eF bRepr (aC (eV 1) aN))))
/-- _law_leaf(_law_pen_here, _law_far) -/
def B_law_leaf (c : Nat → Fn) : LS :=
  (sSeq (sIf (tCm (dCmpI fun i j => decide (j < i)) (eCall (c 21) [] (aC (eV 0) (aC (eC (.int 4)) aN))) (eC (.int 0)))
  (sRet (eTup (aC (eC (.str "var")) (aC (eCall (c 21) [] (aC (eV 0) (aC (eC (.int 3)) aN))) aN))))
  sNil)
  (sRet (eTup (aC (eC (.str "number")) (aC (eCall (c 22) [] (aC (eV 0) (aC (eLst (aC (eC (.int 0)) (aC (eC (.int 1)) (aC (eU dNeg (eC (.int 1))) (aC (eC (.int 2)) (aC (eC (.int 3)) (aC (eB dSub (eC (.int 0)) (eV 1)) (aC (eV 1) (aC (eB dSub (eCall (c 21) [] (aC (eV 0) (aC (eB dAdd (eB dMul (eC (.int 2)) (eV 1)) (eC (.int 1))) aN))) (eV 1)) aN))))))))) aN))) aN)))))
/-- _law_drawn(_law_pen_here, _law_most, _law_far, _law_shifts, _law_scales) -/
def B_law_drawn (c : Nat → Fn) : LS :=
  (sSeq (sIf ((tO (tCm dEq (eV 1) (eC (.int 0))) (tCm dEq (eCall (c 21) [] (aC (eV 0) (aC (eC (.int 7)) aN))) (eC (.int 0)))))
  (sRet (eCall (c 24) [] (aC (eV 0) (aC (eV 2) aN))))
  sNil)
  (sSeq (sSet 5 (eCall (c 22) [] (aC (eV 0) (aC (eLst (aC (eC (.str "not")) (aC (eC (.str "and")) (aC (eC (.str "or")) (aC (eC (.str "xor")) (aC (eC (.str "plus")) (aC (eC (.str "plus")) (aC (eC (.str "minus")) (aC (eC (.str "minus")) (aC (eC (.str "shift")) (aC (eC (.str "times")) aN))))))))))) aN))))
  (sSeq (sIf (tCm dEq (eV 5) (eC (.str "not")))
  (sRet (eTup (aC (eV 5) (aC (eCall (c 25) [] (aC (eV 0) (aC (eB dSub (eV 1) (eC (.int 1))) (aC (eV 2) (aC (eV 3) (aC (eV 4) aN)))))) aN))))
  sNil)
  (sSeq (sIf (tCm dEq (eV 5) (eC (.str "shift")))
  (sRet (eTup (aC (eV 5) (aC (eCall (c 25) [] (aC (eV 0) (aC (eB dSub (eV 1) (eC (.int 1))) (aC (eV 2) (aC (eV 3) (aC (eV 4) aN)))))) (aC (eB dAdd (eC (.int 1)) (eCall (c 21) [] (aC (eV 0) (aC (eV 3) aN)))) aN)))))
  sNil)
  (sSeq (sIf (tCm dEq (eV 5) (eC (.str "times")))
  (sSeq (sSet 6 (eB dSub (eCall (c 21) [] (aC (eV 0) (aC (eB dAdd (eB dMul (eC (.int 2)) (eV 4)) (eC (.int 1))) aN))) (eV 4)))
  (sRet (eTup (aC (eV 5) (aC (eV 6) (aC (eCall (c 25) [] (aC (eV 0) (aC (eB dSub (eV 1) (eC (.int 1))) (aC (eV 2) (aC (eV 3) (aC (eV 4) aN)))))) aN))))))
  sNil)
  (sSeq (sSet 7 (eCall (c 21) [] (aC (eV 0) (aC (eV 1) aN))))
  (sSeq (sSet 8 (eCall (c 25) [] (aC (eV 0) (aC (eV 7) (aC (eV 2) (aC (eV 3) (aC (eV 4) aN)))))))
  (sRet (eTup (aC (eV 5) (aC (eV 8) (aC (eCall (c 25) [] (aC (eV 0) (aC (eB dSub (eB dSub (eV 1) (eC (.int 1))) (eV 7)) (aC (eV 2) (aC (eV 3) (aC (eV 4) aN)))))) aN))))))))))))
/-- _law_any(_law_pen_here, _law_most) -/
def B_law_any (c : Nat → Fn) : LS :=
  (sRet (eCall (c 25) [] (aC (eV 0) (aC (eV 1) (aC (eC (.int 1000)) (aC (eC (.int 4)) (aC (eC (.int 9)) aN)))))))
/-- _law_mild(_law_pen_here, _law_most) -/
def B_law_mild (c : Nat → Fn) : LS :=
  (sRet (eCall (c 25) [] (aC (eV 0) (aC (eV 1) (aC (eC (.int 4)) (aC (eC (.int 2)) (aC (eC (.int 3)) aN)))))))
/-- _law_worth(_law_form, _law_numbers_here) -/
def B_law_worth (c : Nat → Fn) : LS :=
  (sSeq (sSet 2 (eB dIx (eV 0) (eC (.int 0))))
  (sSeq (sIf ((tO (tCm dEq (eV 2) (eC (.str "var"))) (tCm dEq (eV 2) (eC (.str "number")))))
  (sRet (eIf (tCm dEq (eV 2) (eC (.str "var"))) (eB dIx (eV 1) (eB dIx (eV 0) (eC (.int 1)))) (eB dIx (eV 0) (eC (.int 1)))))
  sNil)
  (sSeq (sIf (tCm dEq (eV 2) (eC (.str "not")))
  (sRet (eB dSub (eB dSub (eC (.int 0)) (eCall (c 28) [] (aC (eB dIx (eV 0) (eC (.int 1))) (aC (eV 1) aN)))) (eC (.int 1))))
  sNil)
  (sSeq (sIf (tCm dEq (eV 2) (eC (.str "shift")))
  (sRet (eB dMul (eCall (c 28) [] (aC (eB dIx (eV 0) (eC (.int 1))) (aC (eV 1) aN))) (eCall (c 29) [] (aC (eB dIx (eV 0) (eC (.int 2))) aN))))
  sNil)
  (sSeq (sIf (tCm dEq (eV 2) (eC (.str "times")))
  (sRet (eB dMul (eB dIx (eV 0) (eC (.int 1))) (eCall (c 28) [] (aC (eB dIx (eV 0) (eC (.int 2))) (aC (eV 1) aN)))))
  sNil)
  (sSeq (sPar [3, 4] (aC (eCall (c 28) [] (aC (eB dIx (eV 0) (eC (.int 1))) (aC (eV 1) aN))) (aC (eCall (c 28) [] (aC (eB dIx (eV 0) (eC (.int 2))) (aC (eV 1) aN))) aN)))
  (sSeq (sIf ((tO (tCm dEq (eV 2) (eC (.str "plus"))) (tCm dEq (eV 2) (eC (.str "minus")))))
  (sRet (eIf (tCm dEq (eV 2) (eC (.str "plus"))) (eB dAdd (eV 3) (eV 4)) (eB dSub (eV 3) (eV 4))))
  sNil)
  (sRet (eIf (tCm dEq (eV 2) (eC (.str "and"))) (eB (dI Builtin.bitAnd) (eV 3) (eV 4)) (eIf (tCm dEq (eV 2) (eC (.str "or"))) (eB (dI Builtin.bitOr) (eV 3) (eV 4)) (eB (dI Builtin.bitXor) (eV 3) (eV 4))))))))))))
/-- _law_two(_law_width) -/
def B_law_two (c : Nat → Fn) : LS :=
  (sSeq (sSet 1 (eC (.int 1)))
  (sSeq (sFor (iR1 (eV 0)) (.nm 2)
  (sSet 1 (eB dMul (eV 1) (eC (.int 2)))))
  (sRet (eV 1))))
/-- _law_numbers(_law_pen_here, _law_width) -/
def B_law_numbers (c : Nat → Fn) : LS :=
  (sSeq (sSet 2 (eCall (c 29) [] (aC (eV 1) aN)))
  (sSeq (sSet 3 (eLst (aC (eC (.int 0)) (aC (eC (.int 1)) (aC (eB dSub (eV 2) (eC (.int 1))) (aC (eB dDiv (eV 2) (eC (.int 2))) (aC (eCall (c 21) [] (aC (eV 0) (aC (eV 2) aN))) (aC (eCall (c 21) [] (aC (eV 0) (aC (eV 2) aN))) (aC (eB dSub (eC (.int 0)) (eCall (c 21) [] (aC (eV 0) (aC (eV 2) aN)))) aN)))))))))
  (sRet (eF bTuple (aC (eLc (iR1 (eC (.int 3))) (.nm 4) tY (eCall (c 22) [] (aC (eV 0) (aC (eV 3) aN))) [4]) aN)))))
/-- _law_tests(_law_statement) -/
def B_law_tests (c : Nat → Fn) : LS :=
  (sSeq (sIf (tCm (dIn false) (eB dIx (eV 0) (eC (.int 0))) (eTup (aC (eC (.str "both")) (aC (eC (.str "either")) (aC (eC (.str "neither")) aN)))))
  (sSeq (sSet 1 (eLst aN))
  (sSeq (sFor (iE (eSl (eV 0) (oS (eC (.int 1))) oN)) (.nm 2)
  (sSet 1 (eB dAdd (eV 1) (eCall (c 31) [] (aC (eV 2) aN)))))
  (sRet (eV 1))))
  sNil)
  (sRet (eLst (aC (eV 0) aN))))
/-- _law_judge(_law_statement, _law_left) -/
def B_law_judge (c : Nat → Fn) : LS :=
  (sSeq (sIf (tCm (dIn true) (eB dIx (eV 0) (eC (.int 0))) (eTup (aC (eC (.str "both")) (aC (eC (.str "either")) (aC (eC (.str "neither")) aN)))))
  (sRet (eML mPop0 (eV 1) (aC (eC (.int 0)) aN)))
  sNil)
  (sSeq (sSet 2 (eLc (iE (eSl (eV 0) (oS (eC (.int 1))) oN)) (.nm 3) tY (eCall (c 32) [] (aC (eV 3) (aC (eV 1) aN))) [3]))
  (sSeq (sIf (tCm dEq (eB dIx (eV 0) (eC (.int 0))) (eC (.str "neither")))
  (sRet (eNot (eB dIx (eV 2) (eC (.int 0)))))
  sNil)
  (sRet (eIf (tCm dEq (eB dIx (eV 0) (eC (.int 0))) (eC (.str "both"))) ((eAnd (eB dIx (eV 2) (eC (.int 0))) (eB dIx (eV 2) (eC (.int 1))))) ((eOr (eB dIx (eV 2) (eC (.int 0))) (eB dIx (eV 2) (eC (.int 1))))))))))
/-- _law_signed(_law_number, _law_width) -/
def B_law_signed (c : Nat → Fn) : LS :=
  (sRet (eIf (tCm (dCmpI fun i j => decide (j ≤ i)) (eV 0) (eCall (c 29) [] (aC (eB dSub (eV 1) (eC (.int 1))) aN))) (eB dSub (eV 0) (eCall (c 29) [] (aC (eV 1) aN))) (eV 0)))
/-- _law_test_so(_law_test, _law_numbers_here, _law_width) -/
def B_law_test_so (c : Nat → Fn) : LS :=
  (sSeq (sSet 3 (eCall (c 29) [] (aC (eV 2) aN)))
  (sSeq (sPar [4, 5] (aC (eB dMod (eCall (c 28) [] (aC (eB dIx (eV 0) (eC (.int 1))) (aC (eV 1) aN))) (eV 3)) (aC (eB dMod (eCall (c 28) [] (aC (eB dIx (eV 0) (eC (.int 2))) (aC (eV 1) aN))) (eV 3)) aN)))
  (sSeq (sIf (tCm dEq (eB dIx (eV 0) (eC (.int 0))) (eC (.str "equal")))
  (sRet (eB dEq (eV 4) (eV 5)))
  sNil)
  (sRet (eIf (tCm dEq (eB dIx (eV 0) (eC (.int 0))) (eC (.str "below"))) (eB (dCmpI fun i j => decide (i < j)) (eV 4) (eV 5)) (eB (dCmpI fun i j => decide (i < j)) (eCall (c 33) [] (aC (eV 4) (aC (eV 2) aN))) (eCall (c 33) [] (aC (eV 5) (aC (eV 2) aN)))))))))
/-- _law_so(_law_statement, _law_numbers_here, _law_width) -/
def B_law_so (c : Nat → Fn) : LS :=
  (sRet (eCall (c 32) [] (aC (eV 0) (aC (eLc (iE (eCall (c 31) [] (aC (eV 0) aN))) (.nm 3) tY (eCall (c 34) [] (aC (eV 3) (aC (eV 1) (aC (eV 2) aN)))) [3]) aN))))
/-- _law_plain(_law_pen_here) -/
def B_law_plain (c : Nat → Fn) : LS :=
  (sSeq (sSet 1 (eCall (c 22) [] (aC (eV 0) (aC (eLst (aC (eC (.str "equal")) (aC (eC (.str "equal")) (aC (eC (.str "below")) (aC (eC (.str "less")) aN))))) aN))))
  (sRet (eTup (aC (eV 1) (aC (eCall (c 27) [] (aC (eV 0) (aC (eC (.int 2)) aN))) (aC (eCall (c 27) [] (aC (eV 0) (aC (eCall (c 21) [] (aC (eV 0) (aC (eC (.int 3)) aN))) aN))) aN))))))
/-- _law_odd_widths(_law_pen_here) -/
def B_law_odd_widths (c : Nat → Fn) : LS :=
  (sSeq (sSet 1 (eTup (aC (eC (.str "var")) (aC (eCall (c 21) [] (aC (eV 0) (aC (eC (.int 3)) aN))) aN))))
  (sSeq (sIf (tCm dEq (eCall (c 21) [] (aC (eV 0) (aC (eC (.int 2)) aN))) (eC (.int 0)))
  (sSeq (sSet 2 (eTup (aC (eC (.str "number")) (aC (eCall (c 22) [] (aC (eV 0) (aC (eLst (aC (eC (.int 1)) (aC (eU dNeg (eC (.int 1))) (aC (eC (.int 2)) (aC (eC (.int 0)) (aC (eC (.int 3)) aN)))))) aN))) aN))))
  (sRet (eTup (aC (eC (.str "equal")) (aC (eTup (aC (eC (.str "times")) (aC (eCall (c 22) [] (aC (eV 0) (aC (eLst (aC (eC (.int 3)) (aC (eC (.int 5)) (aC (eU dNeg (eC (.int 3))) (aC (eC (.int 7)) (aC (eC (.int 2)) (aC (eC (.int 6)) aN))))))) aN))) (aC (eV 1) aN)))) (aC (eV 2) aN))))))
  sNil)
  (sRet (eTup (aC (eC (.str "equal")) (aC (eTup (aC (eC (.str "xor")) (aC (eV 1) (aC (eTup (aC (eC (.str "shift")) (aC (eV 1) (aC (eB dAdd (eC (.int 1)) (eCall (c 21) [] (aC (eV 0) (aC (eC (.int 2)) aN)))) aN)))) aN)))) (aC (eTup (aC (eC (.str "number")) (aC (eCall (c 22) [] (aC (eV 0) (aC (eLst (aC (eU dNeg (eC (.int 1))) (aC (eC (.int 1)) (aC (eC (.int 5)) aN)))) aN))) aN))) aN)))))))
/-- _law_stated(_law_pen_here, _law_words) -/
def B_law_stated (c : Nat → Fn) : LS :=
  (sSeq (sIf ((tO (tCm dEq (eV 1) (eC (.int 0))) (tCm dEq (eCall (c 21) [] (aC (eV 0) (aC (eC (.int 3)) aN))) (eC (.int 0)))))
  (sRet (eIf (tCm dEq (eCall (c 21) [] (aC (eV 0) (aC (eC (.int 3)) aN))) (eC (.int 0))) (eCall (c 37) [] (aC (eV 0) aN)) (eCall (c 36) [] (aC (eV 0) aN))))
  sNil)
  (sSeq (sSet 2 (eCall (c 22) [] (aC (eV 0) (aC (eLst (aC (eC (.str "both")) (aC (eC (.str "both")) (aC (eC (.str "either")) (aC (eC (.str "neither")) aN))))) aN))))
  (sSeq (sIf (tCm dEq (eV 2) (eC (.str "neither")))
  (sRet (eTup (aC (eV 2) (aC (eCall (c 38) [] (aC (eV 0) (aC (eB dSub (eV 1) (eC (.int 1))) aN))) aN))))
  sNil)
  (sRet (eTup (aC (eV 2) (aC (eCall (c 38) [] (aC (eV 0) (aC (eB dSub (eV 1) (eC (.int 1))) aN))) (aC (eCall (c 38) [] (aC (eV 0) (aC (eC (.int 0)) aN))) aN))))))))
/-- law(_law_script) -/
def B_law (c : Nat → Fn) : LS :=
  (sSeq (sFor (iR1 (eF bMax (aC (eC (.int 1)) (aC (eF bMin (aC (eF bLen (aC (eV 0) aN)) (aC (eC (.int 3)) aN))) aN)))) (.nm 1)
  (sSeq (sSet 2 (eCall (c 20) [] (aC (eCall (c 19) [] (aC (eV 0) (aC (eV 1) aN))) aN)))
  (sFor (iR1 (eC (.int 14))) (.nm 3)
  (sSeq (sSet 4 (eCall (c 22) [] (aC (eV 2) (aC (eLst (aC (eC (.str "equal")) (aC (eC (.str "below")) (aC (eC (.str "less")) aN)))) aN))))
  (sSeq (sSet 5 (eCall (c 22) [] (aC (eV 2) (aC (eLst (aC (eTup (aC (eV 4) (aC (eCall (c 26) [] (aC (eV 2) (aC (eC (.int 6)) aN))) (aC (eCall (c 26) [] (aC (eV 2) (aC (eC (.int 4)) aN))) aN)))) (aC (eCall (c 38) [] (aC (eV 2) (aC (eC (.int 3)) aN))) aN))) aN))))
  (sSeq (sSet 6 (eCall (c 22) [] (aC (eV 2) (aC (eLst (aC (eC (.int 1)) (aC (eC (.int 2)) (aC (eC (.int 3)) (aC (eC (.int 4)) (aC (eC (.int 7)) (aC (eC (.int 33)) (aC (eC (.int 64)) (aC (eC (.int 500)) (aC (eC (.int 2000)) aN)))))))))) aN))))
  (sFor (iR1 (eC (.int 3))) (.nm 7)
  (sSeq (sSet 8 (eCall (c 30) [] (aC (eV 2) (aC (eCall (c 22) [] (aC (eV 2) (aC (eLst (aC (eV 6) (aC (eV 6) (aC (eC (.int 3)) aN)))) aN))) aN))))
  (sSeq (sPar [9, 10] (aC (eF bRepr (aC (eTup (aC (eV 5) (aC (eV 8) aN))) aN)) (aC (eCall (c 35) [] (aC (eV 5) (aC (eV 8) (aC (eV 6) aN)))) aN)))
  (sSeq (sIf (tN (tV (eCall (c 23) [] (aC (eLc (iR1 (eC (.int 2))) (.nm 11) tY (eCall (c 18) [] (aC (eV 5) (aC (eV 8) (aC (eV 6) aN)))) [11]) (aC (eLst (aC (eV 10) (aC (eV 10) aN))) aN)))))
  (sRet (eC (.bl false)))
  sNil)
  (sIf (tCm dNe (eF bRepr (aC (eTup (aC (eV 5) (aC (eV 8) aN))) aN)) (eV 9))
  (sRet (eC (.bl false)))
  sNil)))))))))))
  (sRet (eC (.bl true))))
def bodies (c : Nat → Fn) : Nat → Fn
  | 0 => runF 1 1 (B_is_integer c)
  | 1 => runF 3 3 (B_is_between c)
  | 2 => runF 4 1 (B_parts_of c)
  | 3 => runF 5 2 (B_counted c)
  | 4 => runF 3 3 (B_paired c)
  | 5 => runF 3 2 (B_whole_of c)
  | 6 => runF 3 3 (B_value_of c)
  | 7 => runF 3 2 (B_need_values c)
  | 8 => runF 2 2 (B_need_width c)
  | 9 => runF 3 1 (B_operations_in c)
  | 10 => runF 1 1 (B_is_joined c)
  | 11 => runF 7 1 (B_is_statement c)
  | 12 => runF 1 1 (B_need_statement c)
  | 13 => runF 4 1 (B_plan_of c)
  | 14 => runF 7 2 (B_judged c)
  | 15 => runF 2 2 (B_signed c)
  | 16 => runF 5 3 (B_is_test_true c)
  | 17 => runF 5 3 (B_is_true_of c)
  | 18 => runF 3 3 (B_is_true c)
  | 19 => runF 2 2 (B_law_cell c)
  | 20 => runF 1 1 (B_law_pen c)
  | 21 => runF 4 2 (B_law_draw c)
  | 22 => runF 2 2 (B_law_pick c)
  | 23 => runF 2 2 (B_law_same c)
  | 24 => runF 2 2 (B_law_leaf c)
  | 25 => runF 9 5 (B_law_drawn c)
  | 26 => runF 2 2 (B_law_any c)
  | 27 => runF 2 2 (B_law_mild c)
  | 28 => runF 5 2 (B_law_worth c)
  | 29 => runF 3 1 (B_law_two c)
  | 30 => runF 5 2 (B_law_numbers c)
  | 31 => runF 3 1 (B_law_tests c)
  | 32 => runF 4 2 (B_law_judge c)
  | 33 => runF 2 2 (B_law_signed c)
  | 34 => runF 6 3 (B_law_test_so c)
  | 35 => runF 4 3 (B_law_so c)
  | 36 => runF 2 1 (B_law_plain c)
  | 37 => runF 3 1 (B_law_odd_widths c)
  | 38 => runF 3 2 (B_law_stated c)
  | 39 => runF 12 1 (B_law c)
  | _ => fun _ _ => .no
/-- the k-th reading: calls at most k deep -/
def run : Nat → Nat → Fn
  | 0, _ => fun _ _ => .no
  | k + 1, i => bodies (run k) i
abbrev i_is_integer : Nat := 0
abbrev i_is_between : Nat := 1
abbrev i_parts_of : Nat := 2
abbrev i_counted : Nat := 3
abbrev i_paired : Nat := 4
abbrev i_whole_of : Nat := 5
abbrev i_value_of : Nat := 6
abbrev i_need_values : Nat := 7
abbrev i_need_width : Nat := 8
abbrev i_operations_in : Nat := 9
abbrev i_is_joined : Nat := 10
abbrev i_is_statement : Nat := 11
abbrev i_need_statement : Nat := 12
abbrev i_plan_of : Nat := 13
abbrev i_judged : Nat := 14
abbrev i_signed : Nat := 15
abbrev i_is_test_true : Nat := 16
abbrev i_is_true_of : Nat := 17
abbrev i_is_true : Nat := 18
abbrev i_law_cell : Nat := 19
abbrev i_law_pen : Nat := 20
abbrev i_law_draw : Nat := 21
abbrev i_law_pick : Nat := 22
abbrev i_law_same : Nat := 23
abbrev i_law_leaf : Nat := 24
abbrev i_law_drawn : Nat := 25
abbrev i_law_any : Nat := 26
abbrev i_law_mild : Nat := 27
abbrev i_law_worth : Nat := 28
abbrev i_law_two : Nat := 29
abbrev i_law_numbers : Nat := 30
abbrev i_law_tests : Nat := 31
abbrev i_law_judge : Nat := 32
abbrev i_law_signed : Nat := 33
abbrev i_law_test_so : Nat := 34
abbrev i_law_so : Nat := 35
abbrev i_law_plain : Nat := 36
abbrev i_law_odd_widths : Nat := 37
abbrev i_law_stated : Nat := 38
abbrev i_law : Nat := 39
theorem in_is_integer (k : Nat) (d0 : D) (M : Mem) : run (k + 1) 0 [d0] M = retF (B_is_integer (run k) [some d0] M) := rfl
theorem in_is_between (k : Nat) (d0 d1 d2 : D) (M : Mem) : run (k + 1) 1 [d0, d1, d2] M = retF (B_is_between (run k) [some d0, some d1, some d2] M) := rfl
theorem in_parts_of (k : Nat) (d0 : D) (M : Mem) : run (k + 1) 2 [d0] M = retF (B_parts_of (run k) [some d0, none, none, none] M) := rfl
theorem in_counted (k : Nat) (d0 d1 : D) (M : Mem) : run (k + 1) 3 [d0, d1] M = retF (B_counted (run k) [some d0, some d1, none, none, none] M) := rfl
theorem in_paired (k : Nat) (d0 d1 d2 : D) (M : Mem) : run (k + 1) 4 [d0, d1, d2] M = retF (B_paired (run k) [some d0, some d1, some d2] M) := rfl
theorem in_whole_of (k : Nat) (d0 d1 : D) (M : Mem) : run (k + 1) 5 [d0, d1] M = retF (B_whole_of (run k) [some d0, some d1, none] M) := rfl
theorem in_value_of (k : Nat) (d0 d1 d2 : D) (M : Mem) : run (k + 1) 6 [d0, d1, d2] M = retF (B_value_of (run k) [some d0, some d1, some d2] M) := rfl
theorem in_need_values (k : Nat) (d0 d1 : D) (M : Mem) : run (k + 1) 7 [d0, d1] M = retF (B_need_values (run k) [some d0, some d1, none] M) := rfl
theorem in_need_width (k : Nat) (d0 d1 : D) (M : Mem) : run (k + 1) 8 [d0, d1] M = retF (B_need_width (run k) [some d0, some d1] M) := rfl
theorem in_operations_in (k : Nat) (d0 : D) (M : Mem) : run (k + 1) 9 [d0] M = retF (B_operations_in (run k) [some d0, none, none] M) := rfl
theorem in_is_joined (k : Nat) (d0 : D) (M : Mem) : run (k + 1) 10 [d0] M = retF (B_is_joined (run k) [some d0] M) := rfl
theorem in_is_statement (k : Nat) (d0 : D) (M : Mem) : run (k + 1) 11 [d0] M = retF (B_is_statement (run k) [some d0, none, none, none, none, none, none] M) := rfl
theorem in_need_statement (k : Nat) (d0 : D) (M : Mem) : run (k + 1) 12 [d0] M = retF (B_need_statement (run k) [some d0] M) := rfl
theorem in_plan_of (k : Nat) (d0 : D) (M : Mem) : run (k + 1) 13 [d0] M = retF (B_plan_of (run k) [some d0, none, none, none] M) := rfl
theorem in_judged (k : Nat) (d0 d1 : D) (M : Mem) : run (k + 1) 14 [d0, d1] M = retF (B_judged (run k) [some d0, some d1, none, none, none, none, none] M) := rfl
theorem in_signed (k : Nat) (d0 d1 : D) (M : Mem) : run (k + 1) 15 [d0, d1] M = retF (B_signed (run k) [some d0, some d1] M) := rfl
theorem in_is_test_true (k : Nat) (d0 d1 d2 : D) (M : Mem) : run (k + 1) 16 [d0, d1, d2] M = retF (B_is_test_true (run k) [some d0, some d1, some d2, none, none] M) := rfl
theorem in_is_true_of (k : Nat) (d0 d1 d2 : D) (M : Mem) : run (k + 1) 17 [d0, d1, d2] M = retF (B_is_true_of (run k) [some d0, some d1, some d2, none, none] M) := rfl
theorem in_is_true (k : Nat) (d0 d1 d2 : D) (M : Mem) : run (k + 1) 18 [d0, d1, d2] M = retF (B_is_true (run k) [some d0, some d1, some d2] M) := rfl
theorem in_law_cell (k : Nat) (d0 d1 : D) (M : Mem) : run (k + 1) 19 [d0, d1] M = retF (B_law_cell (run k) [some d0, some d1] M) := rfl
theorem in_law_pen (k : Nat) (d0 : D) (M : Mem) : run (k + 1) 20 [d0] M = retF (B_law_pen (run k) [some d0] M) := rfl
theorem in_law_draw (k : Nat) (d0 d1 : D) (M : Mem) : run (k + 1) 21 [d0, d1] M = retF (B_law_draw (run k) [some d0, some d1, none, none] M) := rfl
theorem in_law_pick (k : Nat) (d0 d1 : D) (M : Mem) : run (k + 1) 22 [d0, d1] M = retF (B_law_pick (run k) [some d0, some d1] M) := rfl
theorem in_law_same (k : Nat) (d0 d1 : D) (M : Mem) : run (k + 1) 23 [d0, d1] M = retF (B_law_same (run k) [some d0, some d1] M) := rfl
theorem in_law_leaf (k : Nat) (d0 d1 : D) (M : Mem) : run (k + 1) 24 [d0, d1] M = retF (B_law_leaf (run k) [some d0, some d1] M) := rfl
theorem in_law_drawn (k : Nat) (d0 d1 d2 d3 d4 : D) (M : Mem) : run (k + 1) 25 [d0, d1, d2, d3, d4] M = retF (B_law_drawn (run k) [some d0, some d1, some d2, some d3, some d4, none, none, none, none] M) := rfl
theorem in_law_any (k : Nat) (d0 d1 : D) (M : Mem) : run (k + 1) 26 [d0, d1] M = retF (B_law_any (run k) [some d0, some d1] M) := rfl
theorem in_law_mild (k : Nat) (d0 d1 : D) (M : Mem) : run (k + 1) 27 [d0, d1] M = retF (B_law_mild (run k) [some d0, some d1] M) := rfl
theorem in_law_worth (k : Nat) (d0 d1 : D) (M : Mem) : run (k + 1) 28 [d0, d1] M = retF (B_law_worth (run k) [some d0, some d1, none, none, none] M) := rfl
theorem in_law_two (k : Nat) (d0 : D) (M : Mem) : run (k + 1) 29 [d0] M = retF (B_law_two (run k) [some d0, none, none] M) := rfl
theorem in_law_numbers (k : Nat) (d0 d1 : D) (M : Mem) : run (k + 1) 30 [d0, d1] M = retF (B_law_numbers (run k) [some d0, some d1, none, none, none] M) := rfl
theorem in_law_tests (k : Nat) (d0 : D) (M : Mem) : run (k + 1) 31 [d0] M = retF (B_law_tests (run k) [some d0, none, none] M) := rfl
theorem in_law_judge (k : Nat) (d0 d1 : D) (M : Mem) : run (k + 1) 32 [d0, d1] M = retF (B_law_judge (run k) [some d0, some d1, none, none] M) := rfl
theorem in_law_signed (k : Nat) (d0 d1 : D) (M : Mem) : run (k + 1) 33 [d0, d1] M = retF (B_law_signed (run k) [some d0, some d1] M) := rfl
theorem in_law_test_so (k : Nat) (d0 d1 d2 : D) (M : Mem) : run (k + 1) 34 [d0, d1, d2] M = retF (B_law_test_so (run k) [some d0, some d1, some d2, none, none, none] M) := rfl
theorem in_law_so (k : Nat) (d0 d1 d2 : D) (M : Mem) : run (k + 1) 35 [d0, d1, d2] M = retF (B_law_so (run k) [some d0, some d1, some d2, none] M) := rfl
theorem in_law_plain (k : Nat) (d0 : D) (M : Mem) : run (k + 1) 36 [d0] M = retF (B_law_plain (run k) [some d0, none] M) := rfl
theorem in_law_odd_widths (k : Nat) (d0 : D) (M : Mem) : run (k + 1) 37 [d0] M = retF (B_law_odd_widths (run k) [some d0, none, none] M) := rfl
theorem in_law_stated (k : Nat) (d0 d1 : D) (M : Mem) : run (k + 1) 38 [d0, d1] M = retF (B_law_stated (run k) [some d0, some d1, none] M) := rfl
theorem in_law (k : Nat) (d0 : D) (M : Mem) : run (k + 1) 39 [d0] M = retF (B_law (run k) [some d0, none, none, none, none, none, none, none, none, none, none, none] M) := rfl
end Lw

namespace Lw
open PySem L2 G PyProof.Rows
def topS (i : Nat) : Stmt := PySem.Challenge.pw_anywidth_k21_truths_of_values.main.body.getD i (.Pass ⟨0, 0, 0, 0⟩)
abbrev s_is_integer : Stmt := topS 14
abbrev s_is_between : Stmt := topS 15
abbrev s_parts_of : Stmt := topS 16
abbrev s_counted : Stmt := topS 17
abbrev s_paired : Stmt := topS 18
abbrev s_whole_of : Stmt := topS 19
abbrev s_value_of : Stmt := topS 20
abbrev s_need_values : Stmt := topS 21
abbrev s_need_width : Stmt := topS 22
abbrev s_operations_in : Stmt := topS 31
abbrev s_is_joined : Stmt := topS 32
abbrev s_is_statement : Stmt := topS 33
abbrev s_need_statement : Stmt := topS 34
abbrev s_plan_of : Stmt := topS 35
abbrev s_judged : Stmt := topS 36
abbrev s_signed : Stmt := topS 37
abbrev s_is_test_true : Stmt := topS 38
abbrev s_is_true_of : Stmt := topS 39
abbrev s_is_true : Stmt := topS 40
abbrev s_law_cell : Stmt := topS 42
abbrev s_law_pen : Stmt := topS 43
abbrev s_law_draw : Stmt := topS 44
abbrev s_law_pick : Stmt := topS 45
abbrev s_law_same : Stmt := topS 46
abbrev s_law_leaf : Stmt := topS 47
abbrev s_law_drawn : Stmt := topS 48
abbrev s_law_any : Stmt := topS 49
abbrev s_law_mild : Stmt := topS 50
abbrev s_law_worth : Stmt := topS 51
abbrev s_law_two : Stmt := topS 52
abbrev s_law_numbers : Stmt := topS 53
abbrev s_law_tests : Stmt := topS 54
abbrev s_law_judge : Stmt := topS 55
abbrev s_law_signed : Stmt := topS 56
abbrev s_law_test_so : Stmt := topS 57
abbrev s_law_so : Stmt := topS 58
abbrev s_law_plain : Stmt := topS 59
abbrev s_law_odd_widths : Stmt := topS 60
abbrev s_law_stated : Stmt := topS 61
abbrev s_law : Stmt := topS 62
def ps : Nat → List Str
  | 0 => ["thing"]
  | 1 => ["thing", "low", "high"]
  | 2 => ["thing"]
  | 3 => ["thing", "most"]
  | 4 => ["word", "one", "other"]
  | 5 => ["expression", "values"]
  | 6 => ["expression", "values", "width"]
  | 7 => ["thing", "many"]
  | 8 => ["thing", "most"]
  | 9 => ["thing"]
  | 10 => ["thing"]
  | 11 => ["thing"]
  | 12 => ["thing"]
  | 13 => ["statement"]
  | 14 => ["plan", "truths"]
  | 15 => ["number", "width"]
  | 16 => ["test", "values", "width"]
  | 17 => ["statement", "values", "width"]
  | 18 => ["statement", "values", "width"]
  | 19 => ["_law_script", "_law_k"]
  | 20 => ["_law_cell_here"]
  | 21 => ["_law_pen_here", "_law_many"]
  | 22 => ["_law_pen_here", "_law_these"]
  | 23 => ["_law_found", "_law_due"]
  | 24 => ["_law_pen_here", "_law_far"]
  | 25 => ["_law_pen_here", "_law_most", "_law_far", "_law_shifts", "_law_scales"]
  | 26 => ["_law_pen_here", "_law_most"]
  | 27 => ["_law_pen_here", "_law_most"]
  | 28 => ["_law_form", "_law_numbers_here"]
  | 29 => ["_law_width"]
  | 30 => ["_law_pen_here", "_law_width"]
  | 31 => ["_law_statement"]
  | 32 => ["_law_statement", "_law_left"]
  | 33 => ["_law_number", "_law_width"]
  | 34 => ["_law_test", "_law_numbers_here", "_law_width"]
  | 35 => ["_law_statement", "_law_numbers_here", "_law_width"]
  | 36 => ["_law_pen_here"]
  | 37 => ["_law_pen_here"]
  | 38 => ["_law_pen_here", "_law_words"]
  | 39 => ["_law_script"]
  | _ => []
instance tab0 : Tab := ⟨[]⟩
/-- what the top has written -/
structure Txt (K : PySem.W.Frag) (mg : Str → Option Value) (ad : Nat → Addr) (fd : Nat → FuncData) : Prop where
  m_is_integer : mg "is_integer" = some (.ref (ad 0))
  k_is_integer : PySem.W.keepIn K (.ref (ad 0)) = true
  b_is_integer : Binds K (fd 0) (ps 0) []
  f_is_integer : FunD K "is_integer" "is_integer" (defArgs s_is_integer) (defBody s_is_integer) (defScope s_is_integer) [] [] (ad 0) (fd 0)
  m_is_between : mg "is_between" = some (.ref (ad 1))
  k_is_between : PySem.W.keepIn K (.ref (ad 1)) = true
  b_is_between : Binds K (fd 1) (ps 1) []
  f_is_between : FunD K "is_between" "is_between" (defArgs s_is_between) (defBody s_is_between) (defScope s_is_between) [] [] (ad 1) (fd 1)
  m_parts_of : mg "parts_of" = some (.ref (ad 2))
  k_parts_of : PySem.W.keepIn K (.ref (ad 2)) = true
  b_parts_of : Binds K (fd 2) (ps 2) []
  f_parts_of : FunD K "parts_of" "parts_of" (defArgs s_parts_of) (defBody s_parts_of) (defScope s_parts_of) [] [] (ad 2) (fd 2)
  m_counted : mg "counted" = some (.ref (ad 3))
  k_counted : PySem.W.keepIn K (.ref (ad 3)) = true
  b_counted : Binds K (fd 3) (ps 3) []
  f_counted : FunD K "counted" "counted" (defArgs s_counted) (defBody s_counted) (defScope s_counted) [] [] (ad 3) (fd 3)
  m_paired : mg "paired" = some (.ref (ad 4))
  k_paired : PySem.W.keepIn K (.ref (ad 4)) = true
  b_paired : Binds K (fd 4) (ps 4) []
  f_paired : FunD K "paired" "paired" (defArgs s_paired) (defBody s_paired) (defScope s_paired) [] [] (ad 4) (fd 4)
  m_whole_of : mg "whole_of" = some (.ref (ad 5))
  k_whole_of : PySem.W.keepIn K (.ref (ad 5)) = true
  b_whole_of : Binds K (fd 5) (ps 5) []
  f_whole_of : FunD K "whole_of" "whole_of" (defArgs s_whole_of) (defBody s_whole_of) (defScope s_whole_of) [] [] (ad 5) (fd 5)
  m_value_of : mg "value_of" = some (.ref (ad 6))
  k_value_of : PySem.W.keepIn K (.ref (ad 6)) = true
  b_value_of : Binds K (fd 6) (ps 6) []
  f_value_of : FunD K "value_of" "value_of" (defArgs s_value_of) (defBody s_value_of) (defScope s_value_of) [] [] (ad 6) (fd 6)
  m_need_values : mg "need_values" = some (.ref (ad 7))
  k_need_values : PySem.W.keepIn K (.ref (ad 7)) = true
  b_need_values : Binds K (fd 7) (ps 7) []
  f_need_values : FunD K "need_values" "need_values" (defArgs s_need_values) (defBody s_need_values) (defScope s_need_values) [.int 3] [] (ad 7) (fd 7)
  m_need_width : mg "need_width" = some (.ref (ad 8))
  k_need_width : PySem.W.keepIn K (.ref (ad 8)) = true
  b_need_width : Binds K (fd 8) (ps 8) []
  f_need_width : FunD K "need_width" "need_width" (defArgs s_need_width) (defBody s_need_width) (defScope s_need_width) [.int 2000] [] (ad 8) (fd 8)
  m_operations_in : mg "operations_in" = some (.ref (ad 9))
  k_operations_in : PySem.W.keepIn K (.ref (ad 9)) = true
  b_operations_in : Binds K (fd 9) (ps 9) []
  f_operations_in : FunD K "operations_in" "operations_in" (defArgs s_operations_in) (defBody s_operations_in) (defScope s_operations_in) [] [] (ad 9) (fd 9)
  m_is_joined : mg "is_joined" = some (.ref (ad 10))
  k_is_joined : PySem.W.keepIn K (.ref (ad 10)) = true
  b_is_joined : Binds K (fd 10) (ps 10) []
  f_is_joined : FunD K "is_joined" "is_joined" (defArgs s_is_joined) (defBody s_is_joined) (defScope s_is_joined) [] [] (ad 10) (fd 10)
  m_is_statement : mg "is_statement" = some (.ref (ad 11))
  k_is_statement : PySem.W.keepIn K (.ref (ad 11)) = true
  b_is_statement : Binds K (fd 11) (ps 11) []
  f_is_statement : FunD K "is_statement" "is_statement" (defArgs s_is_statement) (defBody s_is_statement) (defScope s_is_statement) [] [] (ad 11) (fd 11)
  m_need_statement : mg "need_statement" = some (.ref (ad 12))
  k_need_statement : PySem.W.keepIn K (.ref (ad 12)) = true
  b_need_statement : Binds K (fd 12) (ps 12) []
  f_need_statement : FunD K "need_statement" "need_statement" (defArgs s_need_statement) (defBody s_need_statement) (defScope s_need_statement) [] [] (ad 12) (fd 12)
  m_plan_of : mg "plan_of" = some (.ref (ad 13))
  k_plan_of : PySem.W.keepIn K (.ref (ad 13)) = true
  b_plan_of : Binds K (fd 13) (ps 13) []
  f_plan_of : FunD K "plan_of" "plan_of" (defArgs s_plan_of) (defBody s_plan_of) (defScope s_plan_of) [] [] (ad 13) (fd 13)
  m_judged : mg "judged" = some (.ref (ad 14))
  k_judged : PySem.W.keepIn K (.ref (ad 14)) = true
  b_judged : Binds K (fd 14) (ps 14) []
  f_judged : FunD K "judged" "judged" (defArgs s_judged) (defBody s_judged) (defScope s_judged) [] [] (ad 14) (fd 14)
  m_signed : mg "signed" = some (.ref (ad 15))
  k_signed : PySem.W.keepIn K (.ref (ad 15)) = true
  b_signed : Binds K (fd 15) (ps 15) []
  f_signed : FunD K "signed" "signed" (defArgs s_signed) (defBody s_signed) (defScope s_signed) [] [] (ad 15) (fd 15)
  m_is_test_true : mg "is_test_true" = some (.ref (ad 16))
  k_is_test_true : PySem.W.keepIn K (.ref (ad 16)) = true
  b_is_test_true : Binds K (fd 16) (ps 16) []
  f_is_test_true : FunD K "is_test_true" "is_test_true" (defArgs s_is_test_true) (defBody s_is_test_true) (defScope s_is_test_true) [] [] (ad 16) (fd 16)
  m_is_true_of : mg "is_true_of" = some (.ref (ad 17))
  k_is_true_of : PySem.W.keepIn K (.ref (ad 17)) = true
  b_is_true_of : Binds K (fd 17) (ps 17) []
  f_is_true_of : FunD K "is_true_of" "is_true_of" (defArgs s_is_true_of) (defBody s_is_true_of) (defScope s_is_true_of) [] [] (ad 17) (fd 17)
  m_is_true : mg "is_true" = some (.ref (ad 18))
  k_is_true : PySem.W.keepIn K (.ref (ad 18)) = true
  b_is_true : Binds K (fd 18) (ps 18) []
  f_is_true : FunD K "is_true" "is_true" (defArgs s_is_true) (defBody s_is_true) (defScope s_is_true) [] [] (ad 18) (fd 18)
  m_law_cell : mg "_law_cell" = some (.ref (ad 19))
  k_law_cell : PySem.W.keepIn K (.ref (ad 19)) = true
  b_law_cell : Binds K (fd 19) (ps 19) []
  f_law_cell : FunD K "_law_cell" "_law_cell" (defArgs s_law_cell) (defBody s_law_cell) (defScope s_law_cell) [] [] (ad 19) (fd 19)
  m_law_pen : mg "_law_pen" = some (.ref (ad 20))
  k_law_pen : PySem.W.keepIn K (.ref (ad 20)) = true
  b_law_pen : Binds K (fd 20) (ps 20) []
  f_law_pen : FunD K "_law_pen" "_law_pen" (defArgs s_law_pen) (defBody s_law_pen) (defScope s_law_pen) [] [] (ad 20) (fd 20)
  m_law_draw : mg "_law_draw" = some (.ref (ad 21))
  k_law_draw : PySem.W.keepIn K (.ref (ad 21)) = true
  b_law_draw : Binds K (fd 21) (ps 21) []
  f_law_draw : FunD K "_law_draw" "_law_draw" (defArgs s_law_draw) (defBody s_law_draw) (defScope s_law_draw) [] [] (ad 21) (fd 21)
  m_law_pick : mg "_law_pick" = some (.ref (ad 22))
  k_law_pick : PySem.W.keepIn K (.ref (ad 22)) = true
  b_law_pick : Binds K (fd 22) (ps 22) []
  f_law_pick : FunD K "_law_pick" "_law_pick" (defArgs s_law_pick) (defBody s_law_pick) (defScope s_law_pick) [] [] (ad 22) (fd 22)
  m_law_same : mg "_law_same" = some (.ref (ad 23))
  k_law_same : PySem.W.keepIn K (.ref (ad 23)) = true
  b_law_same : Binds K (fd 23) (ps 23) []
  f_law_same : FunD K "_law_same" "_law_same" (defArgs s_law_same) (defBody s_law_same) (defScope s_law_same) [] [] (ad 23) (fd 23)
  m_law_leaf : mg "_law_leaf" = some (.ref (ad 24))
  k_law_leaf : PySem.W.keepIn K (.ref (ad 24)) = true
  b_law_leaf : Binds K (fd 24) (ps 24) []
  f_law_leaf : FunD K "_law_leaf" "_law_leaf" (defArgs s_law_leaf) (defBody s_law_leaf) (defScope s_law_leaf) [] [] (ad 24) (fd 24)
  m_law_drawn : mg "_law_drawn" = some (.ref (ad 25))
  k_law_drawn : PySem.W.keepIn K (.ref (ad 25)) = true
  b_law_drawn : Binds K (fd 25) (ps 25) []
  f_law_drawn : FunD K "_law_drawn" "_law_drawn" (defArgs s_law_drawn) (defBody s_law_drawn) (defScope s_law_drawn) [] [] (ad 25) (fd 25)
  m_law_any : mg "_law_any" = some (.ref (ad 26))
  k_law_any : PySem.W.keepIn K (.ref (ad 26)) = true
  b_law_any : Binds K (fd 26) (ps 26) []
  f_law_any : FunD K "_law_any" "_law_any" (defArgs s_law_any) (defBody s_law_any) (defScope s_law_any) [] [] (ad 26) (fd 26)
  m_law_mild : mg "_law_mild" = some (.ref (ad 27))
  k_law_mild : PySem.W.keepIn K (.ref (ad 27)) = true
  b_law_mild : Binds K (fd 27) (ps 27) []
  f_law_mild : FunD K "_law_mild" "_law_mild" (defArgs s_law_mild) (defBody s_law_mild) (defScope s_law_mild) [] [] (ad 27) (fd 27)
  m_law_worth : mg "_law_worth" = some (.ref (ad 28))
  k_law_worth : PySem.W.keepIn K (.ref (ad 28)) = true
  b_law_worth : Binds K (fd 28) (ps 28) []
  f_law_worth : FunD K "_law_worth" "_law_worth" (defArgs s_law_worth) (defBody s_law_worth) (defScope s_law_worth) [] [] (ad 28) (fd 28)
  m_law_two : mg "_law_two" = some (.ref (ad 29))
  k_law_two : PySem.W.keepIn K (.ref (ad 29)) = true
  b_law_two : Binds K (fd 29) (ps 29) []
  f_law_two : FunD K "_law_two" "_law_two" (defArgs s_law_two) (defBody s_law_two) (defScope s_law_two) [] [] (ad 29) (fd 29)
  m_law_numbers : mg "_law_numbers" = some (.ref (ad 30))
  k_law_numbers : PySem.W.keepIn K (.ref (ad 30)) = true
  b_law_numbers : Binds K (fd 30) (ps 30) []
  f_law_numbers : FunD K "_law_numbers" "_law_numbers" (defArgs s_law_numbers) (defBody s_law_numbers) (defScope s_law_numbers) [] [] (ad 30) (fd 30)
  m_law_tests : mg "_law_tests" = some (.ref (ad 31))
  k_law_tests : PySem.W.keepIn K (.ref (ad 31)) = true
  b_law_tests : Binds K (fd 31) (ps 31) []
  f_law_tests : FunD K "_law_tests" "_law_tests" (defArgs s_law_tests) (defBody s_law_tests) (defScope s_law_tests) [] [] (ad 31) (fd 31)
  m_law_judge : mg "_law_judge" = some (.ref (ad 32))
  k_law_judge : PySem.W.keepIn K (.ref (ad 32)) = true
  b_law_judge : Binds K (fd 32) (ps 32) []
  f_law_judge : FunD K "_law_judge" "_law_judge" (defArgs s_law_judge) (defBody s_law_judge) (defScope s_law_judge) [] [] (ad 32) (fd 32)
  m_law_signed : mg "_law_signed" = some (.ref (ad 33))
  k_law_signed : PySem.W.keepIn K (.ref (ad 33)) = true
  b_law_signed : Binds K (fd 33) (ps 33) []
  f_law_signed : FunD K "_law_signed" "_law_signed" (defArgs s_law_signed) (defBody s_law_signed) (defScope s_law_signed) [] [] (ad 33) (fd 33)
  m_law_test_so : mg "_law_test_so" = some (.ref (ad 34))
  k_law_test_so : PySem.W.keepIn K (.ref (ad 34)) = true
  b_law_test_so : Binds K (fd 34) (ps 34) []
  f_law_test_so : FunD K "_law_test_so" "_law_test_so" (defArgs s_law_test_so) (defBody s_law_test_so) (defScope s_law_test_so) [] [] (ad 34) (fd 34)
  m_law_so : mg "_law_so" = some (.ref (ad 35))
  k_law_so : PySem.W.keepIn K (.ref (ad 35)) = true
  b_law_so : Binds K (fd 35) (ps 35) []
  f_law_so : FunD K "_law_so" "_law_so" (defArgs s_law_so) (defBody s_law_so) (defScope s_law_so) [] [] (ad 35) (fd 35)
  m_law_plain : mg "_law_plain" = some (.ref (ad 36))
  k_law_plain : PySem.W.keepIn K (.ref (ad 36)) = true
  b_law_plain : Binds K (fd 36) (ps 36) []
  f_law_plain : FunD K "_law_plain" "_law_plain" (defArgs s_law_plain) (defBody s_law_plain) (defScope s_law_plain) [] [] (ad 36) (fd 36)
  m_law_odd_widths : mg "_law_odd_widths" = some (.ref (ad 37))
  k_law_odd_widths : PySem.W.keepIn K (.ref (ad 37)) = true
  b_law_odd_widths : Binds K (fd 37) (ps 37) []
  f_law_odd_widths : FunD K "_law_odd_widths" "_law_odd_widths" (defArgs s_law_odd_widths) (defBody s_law_odd_widths) (defScope s_law_odd_widths) [] [] (ad 37) (fd 37)
  m_law_stated : mg "_law_stated" = some (.ref (ad 38))
  k_law_stated : PySem.W.keepIn K (.ref (ad 38)) = true
  b_law_stated : Binds K (fd 38) (ps 38) []
  f_law_stated : FunD K "_law_stated" "_law_stated" (defArgs s_law_stated) (defBody s_law_stated) (defScope s_law_stated) [] [] (ad 38) (fd 38)
  m_law : mg "law" = some (.ref (ad 39))
  k_law : PySem.W.keepIn K (.ref (ad 39)) = true
  b_law : Binds K (fd 39) (ps 39) []
  f_law : FunD K "law" "law" (defArgs s_law) (defBody s_law) (defScope s_law) [] [] (ad 39) (fd 39)
  b_need_values_1 : ∃ ds, Vals [.int 3] ds ∧ Binds K (fd 7) (ps 7) ds
  b_need_width_1 : ∃ ds, Vals [.int 2000] ds ∧ Binds K (fd 8) (ps 8) ds
  g_BOTH : ∃ v u, mg "BOTH" = some u ∧ RelV v u ∧ ∀ μ H, Rv K μ H c_BOTH v
  g_EITHER : ∃ v u, mg "EITHER" = some u ∧ RelV v u ∧ ∀ μ H, Rv K μ H c_EITHER v
  g_GREATEST_NUMBER : ∃ v u, mg "GREATEST_NUMBER" = some u ∧ RelV v u ∧ ∀ μ H, Rv K μ H c_GREATEST_NUMBER v
  g_LEAVES : ∃ v u, mg "LEAVES" = some u ∧ RelV v u ∧ ∀ μ H, Rv K μ H c_LEAVES v
  g_MOST_IN_ALL : ∃ v u, mg "MOST_IN_ALL" = some u ∧ RelV v u ∧ ∀ μ H, Rv K μ H c_MOST_IN_ALL v
  g_MOST_OPERATIONS : ∃ v u, mg "MOST_OPERATIONS" = some u ∧ RelV v u ∧ ∀ μ H, Rv K μ H c_MOST_OPERATIONS v
  g_MOST_SHIFT : ∃ v u, mg "MOST_SHIFT" = some u ∧ RelV v u ∧ ∀ μ H, Rv K μ H c_MOST_SHIFT v
  g_MOST_TESTS : ∃ v u, mg "MOST_TESTS" = some u ∧ RelV v u ∧ ∀ μ H, Rv K μ H c_MOST_TESTS v
  g_MOST_TIMES : ∃ v u, mg "MOST_TIMES" = some u ∧ RelV v u ∧ ∀ μ H, Rv K μ H c_MOST_TIMES v
  g_MOST_WORDS : ∃ v u, mg "MOST_WORDS" = some u ∧ RelV v u ∧ ∀ μ H, Rv K μ H c_MOST_WORDS v
  g_NEITHER : ∃ v u, mg "NEITHER" = some u ∧ RelV v u ∧ ∀ μ H, Rv K μ H c_NEITHER v
  g_PAIRED : ∃ v u, mg "PAIRED" = some u ∧ RelV v u ∧ ∀ μ H, Rv K μ H c_PAIRED v
  g_TESTS : ∃ v u, mg "TESTS" = some u ∧ RelV v u ∧ ∀ μ H, Rv K μ H c_TESTS v
  g_VARIABLES : ∃ v u, mg "VARIABLES" = some u ∧ RelV v u ∧ ∀ μ H, Rv K μ H c_VARIABLES v
  z_all : mg "all" = none
  z_bool : mg "bool" = none
  z_int : mg "int" = none
  z_isinstance : mg "isinstance" = none
  z_len : mg "len" = none
  z_list : mg "list" = none
  z_max : mg "max" = none
  z_min : mg "min" = none
  z_range : mg "range" = none
  z_repr : mg "repr" = none
  z_str : mg "str" = none
  z_sum : mg "sum" = none
  z_tuple : mg "tuple" = none
variable {P : Program} {w : World} {K : PySem.W.Frag} {mg : Str → Option Value} {base : Heap} {ad : Nat → Addr} {fd : Nat → FuncData} {ce : Nat → Addr × List Str}
theorem sc_is_integer : FnScope ["thing"] (ps 0) (defScope s_is_integer) := ⟨rfl, rfl, rfl, by decide +kernel, rfl, by decide +kernel, by decide +kernel⟩
set_option maxHeartbeats 16000000 in
theorem d_is_integer (T : Txt K mg ad fd) {k : Nat} {c : Nat → Fn} (G : ∀ i, FG P w K mg base CX0 k (ad i) (fd i) (ps i) (spG ⟨K, ce⟩ (c i))) (hnd : base.NoDigits) {f : Addr} (cdv : Value) (A : Around) (out : List PySem.Env) (s : Shared) (H : Hp) (E : XK)
    (hr : Room k (A.deeper (envOfC "is_integer" (defScope s_is_integer) s.heap.objs.size f cdv))) (hgd : A.guards = some []) :
    PSs (cxOf CX0 P w K mg base ["thing"] "is_integer" (defScope s_is_integer) f cdv A out s H E) (defBody s_is_integer) (tGS ⟨K, ce⟩ (fun _ => E) (B_is_integer c)) := by
  have S := sc_is_integer
  exact (psm_one (psm_ret ((pm_and (cg_isi (T := "int") (by decide +kernel) (pm_v 0) rfl T.z_isinstance rfl T.z_int (by decide +kernel)) (pm_one (pm_not (cg_isi (T := "bool") (by decide +kernel) (pm_v 0) rfl T.z_isinstance rfl T.z_bool (by decide +kernel))))))))
theorem sc_is_between : FnScope ["thing", "low", "high"] (ps 1) (defScope s_is_between) := ⟨rfl, rfl, rfl, by decide +kernel, rfl, by decide +kernel, by decide +kernel⟩
set_option maxHeartbeats 16000000 in
theorem d_is_between (T : Txt K mg ad fd) {k : Nat} {c : Nat → Fn} (G : ∀ i, FG P w K mg base CX0 k (ad i) (fd i) (ps i) (spG ⟨K, ce⟩ (c i))) (hnd : base.NoDigits) {f : Addr} (cdv : Value) (A : Around) (out : List PySem.Env) (s : Shared) (H : Hp) (E : XK)
    (hr : Room k (A.deeper (envOfC "is_between" (defScope s_is_between) s.heap.objs.size f cdv))) (hgd : A.guards = some []) :
    PSs (cxOf CX0 P w K mg base ["thing", "low", "high"] "is_between" (defScope s_is_between) f cdv A out s H E) (defBody s_is_between) (tGS ⟨K, ce⟩ (fun _ => E) (B_is_between c)) := by
  have S := sc_is_between
  exact (psm_one (psm_ret ((pm_and (pm_call (G 0) hr hgd rfl T.m_is_integer T.k_is_integer ⟨_, .nil, T.b_is_integer⟩ (fun _ _ => rvs_nil) px0 (pam_cons (pm_v 0) pam_nil)) (pm_one (pm_chain og_le og_le (pm_v 1) (pm_v 0) (pm_v 2)))))))
theorem sc_parts_of : FnScope ["thing", "word", "rest", "far"] (ps 2) (defScope s_parts_of) := ⟨rfl, rfl, rfl, by decide +kernel, rfl, by decide +kernel, by decide +kernel⟩
set_option maxHeartbeats 16000000 in
theorem d_parts_of (T : Txt K mg ad fd) {k : Nat} {c : Nat → Fn} (G : ∀ i, FG P w K mg base CX0 k (ad i) (fd i) (ps i) (spG ⟨K, ce⟩ (c i))) (hnd : base.NoDigits) {f : Addr} (cdv : Value) (A : Around) (out : List PySem.Env) (s : Shared) (H : Hp) (E : XK)
    (hr : Room k (A.deeper (envOfC "parts_of" (defScope s_parts_of) s.heap.objs.size f cdv))) (hgd : A.guards = some []) :
    PSs (cxOf CX0 P w K mg base ["thing", "word", "rest", "far"] "parts_of" (defScope s_parts_of) f cdv A out s H E) (defBody s_parts_of) (tGS ⟨K, ce⟩ (fun _ => E) (B_parts_of c)) := by
  have S := sc_parts_of
  exact (psm_cons (psm_if (PW.pt (pwm_or (ptm_not (pt_tru (cg_isi (T := "tuple") (by decide +kernel) (pm_v 0) rfl T.z_isinstance rfl T.z_tuple (by decide +kernel)))) (pwm_or (pt_cm og_notIn (pm_cb cg_len rfl T.z_len (by decide +kernel) (pam_cons (pm_v 0) pam_nil)) (pm_tup (pam_cons (pm_int) (pam_cons (pm_int) pam_nil))) rfl) (pwm_or1 (ptm_not (pt_tru (cg_isi (T := "str") (by decide +kernel) (pm_ix og_ix (pm_v 0) (pm_int) (fun _ _ => rfl)) rfl T.z_isinstance rfl T.z_str (by decide +kernel))))))))
  (psm_one (psm_ret (pm_non)))
  psm_nil)
  (psm_cons (psm_par (j := 1) (k := 2) rfl S.nd rfl rfl (by decide) rfl rfl (pam_cons (pm_ix og_ix (pm_v 0) (pm_int) (fun _ _ => rfl)) (pam_cons (pm_slice (pm_v 0) (pom_some (pm_int)) pom_none) pam_nil)) (by rfl))
  (psm_cons (psm_if (PW.pt (pwm_and (pt_cm og_in (pm_v 1) (pm_ge rfl T.g_LEAVES) rfl) (pwm_and1 (pt_cm (og_eq hr.units) (pm_cb cg_len rfl T.z_len (by decide +kernel) (pam_cons (pm_v 2) pam_nil)) (pm_int) (nomark _)))))
  (psm_cons (psm_set (j := 3) S.nd rfl (Or.inl rfl) (pm_if (pt_cm (og_eq hr.units) (pm_v 1) (pm_str) (nomark _)) (pm_tup (pam_cons (pm_int) (pam_cons (pm_op og_sub (pm_ge rfl T.g_VARIABLES) (pm_int)) pam_nil))) (pm_tup (pam_cons (pm_op og_sub (pm_int) (pm_ge rfl T.g_GREATEST_NUMBER)) (pam_cons (pm_ge rfl T.g_GREATEST_NUMBER) pam_nil)))))
  (psm_one (psm_ret (pm_if (pt_tru (pm_call (G 1) hr hgd rfl T.m_is_between T.k_is_between ⟨_, .nil, T.b_is_between⟩ (fun _ _ => rvs_nil) px0 (pam_cons (pm_ix og_ix (pm_v 2) (pm_int) (fun _ _ => rfl)) (pam_cons (pm_ix og_ix (pm_v 3) (pm_int) (fun _ _ => rfl)) (pam_cons (pm_ix og_ix (pm_v 3) (pm_int) (fun _ _ => rfl)) pam_nil))))) (pm_tup pam_nil) (pm_non)))))
  psm_nil)
  (psm_cons (psm_if (PW.pt (pwm_or (PW.pt (pwm_and (pt_cm (og_eq hr.units) (pm_v 1) (pm_str) (nomark _)) (pwm_and1 (pt_cm (og_eq hr.units) (pm_cb cg_len rfl T.z_len (by decide +kernel) (pam_cons (pm_v 2) pam_nil)) (pm_int) (nomark _))))) (pwm_or1 (PW.pt (pwm_and (pt_cm og_in (pm_v 1) (pm_ge rfl T.g_PAIRED) rfl) (pwm_and1 (pt_cm (og_eq hr.units) (pm_cb cg_len rfl T.z_len (by decide +kernel) (pam_cons (pm_v 2) pam_nil)) (pm_int) (nomark _))))))))
  (psm_one (psm_ret (pm_v 2)))
  psm_nil)
  (psm_cons (psm_if (PW.pt (pwm_and (pt_cm (og_eq hr.units) (pm_v 1) (pm_str) (nomark _)) (pwm_and (pt_cm (og_eq hr.units) (pm_cb cg_len rfl T.z_len (by decide +kernel) (pam_cons (pm_v 2) pam_nil)) (pm_int) (nomark _)) (pwm_and1 (pt_tru (pm_call (G 1) hr hgd rfl T.m_is_between T.k_is_between ⟨_, .nil, T.b_is_between⟩ (fun _ _ => rvs_nil) px0 (pam_cons (pm_ix og_ix (pm_v 2) (pm_int) (fun _ _ => rfl)) (pam_cons (pm_int) (pam_cons (pm_ge rfl T.g_MOST_SHIFT) pam_nil)))))))))
  (psm_one (psm_ret (pm_slice (pm_v 2) pom_none (pom_some (pm_int)))))
  psm_nil)
  (psm_cons (psm_if (PW.pt (pwm_and (pt_cm (og_eq hr.units) (pm_v 1) (pm_str) (nomark _)) (pwm_and (pt_cm (og_eq hr.units) (pm_cb cg_len rfl T.z_len (by decide +kernel) (pam_cons (pm_v 2) pam_nil)) (pm_int) (nomark _)) (pwm_and1 (pt_tru (pm_call (G 1) hr hgd rfl T.m_is_between T.k_is_between ⟨_, .nil, T.b_is_between⟩ (fun _ _ => rvs_nil) px0 (pam_cons (pm_ix og_ix (pm_v 2) (pm_int) (fun _ _ => rfl)) (pam_cons (pm_op og_sub (pm_int) (pm_ge rfl T.g_MOST_TIMES)) (pam_cons (pm_ge rfl T.g_MOST_TIMES) pam_nil)))))))))
  (psm_one (psm_ret (pm_slice (pm_v 2) (pom_some (pm_int)) pom_none)))
  psm_nil)
  (psm_one (psm_ret (pm_non)))))))))
theorem sc_counted : FnScope ["thing", "most", "many", "waiting", "parts"] (ps 3) (defScope s_counted) := ⟨rfl, rfl, rfl, by decide +kernel, rfl, by decide +kernel, by decide +kernel⟩
set_option maxHeartbeats 16000000 in
theorem d_counted (T : Txt K mg ad fd) {k : Nat} {c : Nat → Fn} (G : ∀ i, FG P w K mg base CX0 k (ad i) (fd i) (ps i) (spG ⟨K, ce⟩ (c i))) (hnd : base.NoDigits) {f : Addr} (cdv : Value) (A : Around) (out : List PySem.Env) (s : Shared) (H : Hp) (E : XK)
    (hr : Room k (A.deeper (envOfC "counted" (defScope s_counted) s.heap.objs.size f cdv))) (hgd : A.guards = some []) :
    PSs (cxOf CX0 P w K mg base ["thing", "most", "many", "waiting", "parts"] "counted" (defScope s_counted) f cdv A out s H E) (defBody s_counted) (tGS ⟨K, ce⟩ (fun _ => E) (B_counted c)) := by
  have S := sc_counted
  exact (psm_cons (psm_par (j := 2) (k := 3) rfl S.nd rfl rfl (by decide) rfl rfl (pam_cons (pm_int) (pam_cons (pm_lst (pam_cons (pm_v 0) pam_nil)) pam_nil)) (by rfl))
  (psm_cons (psm_wh 1000000 (passes_of rfl) (pt_cm (og_ne hr.units) (pm_v 3) (pm_lst pam_nil) (nomark _))
  (psm_cons (psm_set (j := 4) S.nd rfl (Or.inl rfl) (pm_call (G 2) hr hgd rfl T.m_parts_of T.k_parts_of ⟨_, .nil, T.b_parts_of⟩ (fun _ _ => rvs_nil) px0 (pam_cons (pm_ml0 PySem.F.slot_list_pop PySem.F.type_list_pop mg_pop (pm_v 3)) pam_nil)))
  (psm_cons (psm_if (pt_cm og_isN (pm_v 4) (pm_non) (nomark _))
  (psm_one (psm_ret (pm_non)))
  psm_nil)
  (psm_cons (psm_set (j := 2) S.nd rfl (Or.inl rfl) (pm_op og_add (pm_v 2) (pm_ct cg_int rfl T.z_int (by decide +kernel) (pam_cons (pm_cmp (og_ne hr.units) (pm_v 4) (pm_tup pam_nil) (nomark _)) pam_nil))))
  (psm_cons (psm_if (pt_cm og_gt (pm_v 2) (pm_v 1) (nomark _))
  (psm_one (psm_ret (pm_non)))
  psm_nil)
  (psm_one (psm_expr (pm_ml PySem.F.slot_list_extend PySem.F.type_list_extend mg_extend (pm_v 3) (pam_cons (pm_ct cg_list rfl T.z_list (by decide +kernel) (pam_cons (pm_v 4) pam_nil)) pam_nil)))))))))
  (psm_one (psm_ret (pm_v 2)))))
theorem sc_paired : FnScope ["word", "one", "other"] (ps 4) (defScope s_paired) := ⟨rfl, rfl, rfl, by decide +kernel, rfl, by decide +kernel, by decide +kernel⟩
set_option maxHeartbeats 16000000 in
theorem d_paired (T : Txt K mg ad fd) {k : Nat} {c : Nat → Fn} (G : ∀ i, FG P w K mg base CX0 k (ad i) (fd i) (ps i) (spG ⟨K, ce⟩ (c i))) (hnd : base.NoDigits) {f : Addr} (cdv : Value) (A : Around) (out : List PySem.Env) (s : Shared) (H : Hp) (E : XK)
    (hr : Room k (A.deeper (envOfC "paired" (defScope s_paired) s.heap.objs.size f cdv))) (hgd : A.guards = some []) :
    PSs (cxOf CX0 P w K mg base ["word", "one", "other"] "paired" (defScope s_paired) f cdv A out s H E) (defBody s_paired) (tGS ⟨K, ce⟩ (fun _ => E) (B_paired c)) := by
  have S := sc_paired
  exact (psm_cons (psm_match (pm_v 0) (pmc_str (og_eq hr.units) (psm_one (psm_ret (pm_op og_and (pm_v 1) (pm_v 2))))
  (pmc_str (og_eq hr.units) (psm_one (psm_ret (pm_op og_or (pm_v 1) (pm_v 2))))
  (pmc_str (og_eq hr.units) (psm_one (psm_ret (pm_op og_xor (pm_v 1) (pm_v 2))))
  (pmc_str (og_eq hr.units) (psm_one (psm_ret (pm_op og_add (pm_v 1) (pm_v 2))))
  pmc_nil)))))
  (psm_one (psm_ret (pm_op og_sub (pm_v 1) (pm_v 2)))))
theorem sc_whole_of : FnScope ["expression", "values", "word"] (ps 5) (defScope s_whole_of) := ⟨rfl, rfl, rfl, by decide +kernel, rfl, by decide +kernel, by decide +kernel⟩
set_option maxHeartbeats 16000000 in
theorem d_whole_of (T : Txt K mg ad fd) {k : Nat} {c : Nat → Fn} (G : ∀ i, FG P w K mg base CX0 k (ad i) (fd i) (ps i) (spG ⟨K, ce⟩ (c i))) (hnd : base.NoDigits) {f : Addr} (cdv : Value) (A : Around) (out : List PySem.Env) (s : Shared) (H : Hp) (E : XK)
    (hr : Room k (A.deeper (envOfC "whole_of" (defScope s_whole_of) s.heap.objs.size f cdv))) (hgd : A.guards = some []) :
    PSs (cxOf CX0 P w K mg base ["expression", "values", "word"] "whole_of" (defScope s_whole_of) f cdv A out s H E) (defBody s_whole_of) (tGS ⟨K, ce⟩ (fun _ => E) (B_whole_of c)) := by
  have S := sc_whole_of
  exact (psm_cons (psm_set (j := 2) S.nd rfl (Or.inl rfl) (pm_ix og_ix (pm_v 0) (pm_int) (fun _ _ => rfl)))
  (psm_cons (psm_match (pm_v 2) (pmc_str (og_eq hr.units) (psm_one (psm_ret (pm_ix og_ix (pm_v 1) (pm_ix og_ix (pm_v 0) (pm_int) (fun _ _ => rfl)) (fun _ _ => rfl))))
  (pmc_str (og_eq hr.units) (psm_one (psm_ret (pm_ix og_ix (pm_v 0) (pm_int) (fun _ _ => rfl))))
  (pmc_str (og_eq hr.units) (psm_one (psm_ret (pm_op og_sub (pm_un og_neg (pm_int)) (pm_call (G 5) hr hgd rfl T.m_whole_of T.k_whole_of ⟨_, .nil, T.b_whole_of⟩ (fun _ _ => rvs_nil) px0 (pam_cons (pm_ix og_ix (pm_v 0) (pm_int) (fun _ _ => rfl)) (pam_cons (pm_v 1) pam_nil))))))
  (pmc_str (og_eq hr.units) (psm_one (psm_ret (pm_op og_shl (pm_call (G 5) hr hgd rfl T.m_whole_of T.k_whole_of ⟨_, .nil, T.b_whole_of⟩ (fun _ _ => rvs_nil) px0 (pam_cons (pm_ix og_ix (pm_v 0) (pm_int) (fun _ _ => rfl)) (pam_cons (pm_v 1) pam_nil))) (pm_ix og_ix (pm_v 0) (pm_int) (fun _ _ => rfl)))))
  (pmc_str (og_eq hr.units) (psm_one (psm_ret (pm_op og_mul (pm_ix og_ix (pm_v 0) (pm_int) (fun _ _ => rfl)) (pm_call (G 5) hr hgd rfl T.m_whole_of T.k_whole_of ⟨_, .nil, T.b_whole_of⟩ (fun _ _ => rvs_nil) px0 (pam_cons (pm_ix og_ix (pm_v 0) (pm_int) (fun _ _ => rfl)) (pam_cons (pm_v 1) pam_nil))))))
  pmc_nil))))))
  (psm_one (psm_ret (pm_call (G 4) hr hgd rfl T.m_paired T.k_paired ⟨_, .nil, T.b_paired⟩ (fun _ _ => rvs_nil) px0 (pam_cons (pm_v 2) (pam_cons (pm_call (G 5) hr hgd rfl T.m_whole_of T.k_whole_of ⟨_, .nil, T.b_whole_of⟩ (fun _ _ => rvs_nil) px0 (pam_cons (pm_ix og_ix (pm_v 0) (pm_int) (fun _ _ => rfl)) (pam_cons (pm_v 1) pam_nil))) (pam_cons (pm_call (G 5) hr hgd rfl T.m_whole_of T.k_whole_of ⟨_, .nil, T.b_whole_of⟩ (fun _ _ => rvs_nil) px0 (pam_cons (pm_ix og_ix (pm_v 0) (pm_int) (fun _ _ => rfl)) (pam_cons (pm_v 1) pam_nil))) pam_nil))))))))
theorem sc_value_of : FnScope ["expression", "values", "width"] (ps 6) (defScope s_value_of) := ⟨rfl, rfl, rfl, by decide +kernel, rfl, by decide +kernel, by decide +kernel⟩
set_option maxHeartbeats 16000000 in
theorem d_value_of (T : Txt K mg ad fd) {k : Nat} {c : Nat → Fn} (G : ∀ i, FG P w K mg base CX0 k (ad i) (fd i) (ps i) (spG ⟨K, ce⟩ (c i))) (hnd : base.NoDigits) {f : Addr} (cdv : Value) (A : Around) (out : List PySem.Env) (s : Shared) (H : Hp) (E : XK)
    (hr : Room k (A.deeper (envOfC "value_of" (defScope s_value_of) s.heap.objs.size f cdv))) (hgd : A.guards = some []) :
    PSs (cxOf CX0 P w K mg base ["expression", "values", "width"] "value_of" (defScope s_value_of) f cdv A out s H E) (defBody s_value_of) (tGS ⟨K, ce⟩ (fun _ => E) (B_value_of c)) := by
  have S := sc_value_of
  exact (psm_one (psm_ret (pm_op og_mod (pm_call (G 5) hr hgd rfl T.m_whole_of T.k_whole_of ⟨_, .nil, T.b_whole_of⟩ (fun _ _ => rvs_nil) px0 (pam_cons (pm_v 0) (pam_cons (pm_v 1) pam_nil))) (pm_op og_shl (pm_int) (pm_v 2)))))
theorem sc_need_values : FnScope ["thing", "many", "one"] (ps 7) (defScope s_need_values) := ⟨rfl, rfl, rfl, by decide +kernel, rfl, by decide +kernel, by decide +kernel⟩
set_option maxHeartbeats 16000000 in
theorem d_need_values (T : Txt K mg ad fd) {k : Nat} {c : Nat → Fn} (G : ∀ i, FG P w K mg base CX0 k (ad i) (fd i) (ps i) (spG ⟨K, ce⟩ (c i))) (hnd : base.NoDigits) {f : Addr} (cdv : Value) (A : Around) (out : List PySem.Env) (s : Shared) (H : Hp) (E : XK)
    (hr : Room k (A.deeper (envOfC "need_values" (defScope s_need_values) s.heap.objs.size f cdv))) (hgd : A.guards = some []) :
    PSs (cxOf CX0 P w K mg base ["thing", "many", "one"] "need_values" (defScope s_need_values) f cdv A out s H E) (defBody s_need_values) (tGS ⟨K, ce⟩ (fun _ => E) (B_need_values c)) := by
  have S := sc_need_values
  exact (psm_one (psm_if (PW.pt (pwm_or (ptm_not (pt_tru (cg_isi (T := "tuple") (by decide +kernel) (pm_v 0) rfl T.z_isinstance rfl T.z_tuple (by decide +kernel)))) (pwm_or (pt_cm (og_ne hr.units) (pm_cb cg_len rfl T.z_len (by decide +kernel) (pam_cons (pm_v 0) pam_nil)) (pm_v 1) (nomark _)) (pwm_or1 (ptm_not (pt_tru (pm_cb cg_all rfl T.z_all (by decide +kernel) (pam_cons (pm_lc (own := [("one", 2)]) (p := (.nm 2)) rfl S.nd (pim_e (pm_v 0)) (blkOk_by (N := ["thing", "many", "one"]) (sc := defScope s_need_values) (own := [("one", 2)]) (by decide +kernel)) (by decide) (fun _ _ _ _ _ => (pg_name (i := 2) S.nd rfl (Or.inl rfl))) (fun _ _ _ _ _ => ptsm_nil) (fun _ _ _ _ _ => (pm_call (G 0) hr hgd rfl T.m_is_integer T.k_is_integer ⟨_, .nil, T.b_is_integer⟩ (fun _ _ => rvs_nil) px0 (pam_cons (pm_v 2) pam_nil)))) pam_nil))))))))
  (psm_one (psm_never))
  psm_nil))
theorem sc_need_width : FnScope ["thing", "most"] (ps 8) (defScope s_need_width) := ⟨rfl, rfl, rfl, by decide +kernel, rfl, by decide +kernel, by decide +kernel⟩
set_option maxHeartbeats 16000000 in
theorem d_need_width (T : Txt K mg ad fd) {k : Nat} {c : Nat → Fn} (G : ∀ i, FG P w K mg base CX0 k (ad i) (fd i) (ps i) (spG ⟨K, ce⟩ (c i))) (hnd : base.NoDigits) {f : Addr} (cdv : Value) (A : Around) (out : List PySem.Env) (s : Shared) (H : Hp) (E : XK)
    (hr : Room k (A.deeper (envOfC "need_width" (defScope s_need_width) s.heap.objs.size f cdv))) (hgd : A.guards = some []) :
    PSs (cxOf CX0 P w K mg base ["thing", "most"] "need_width" (defScope s_need_width) f cdv A out s H E) (defBody s_need_width) (tGS ⟨K, ce⟩ (fun _ => E) (B_need_width c)) := by
  have S := sc_need_width
  exact (psm_one (psm_if (ptm_not (pt_tru (pm_call (G 1) hr hgd rfl T.m_is_between T.k_is_between ⟨_, .nil, T.b_is_between⟩ (fun _ _ => rvs_nil) px0 (pam_cons (pm_v 0) (pam_cons (pm_int) (pam_cons (pm_v 1) pam_nil))))))
  (psm_one (psm_never))
  psm_nil))
theorem sc_operations_in : FnScope ["thing", "amounts", "one"] (ps 9) (defScope s_operations_in) := ⟨rfl, rfl, rfl, by decide +kernel, rfl, by decide +kernel, by decide +kernel⟩
set_option maxHeartbeats 16000000 in
theorem d_operations_in (T : Txt K mg ad fd) {k : Nat} {c : Nat → Fn} (G : ∀ i, FG P w K mg base CX0 k (ad i) (fd i) (ps i) (spG ⟨K, ce⟩ (c i))) (hnd : base.NoDigits) {f : Addr} (cdv : Value) (A : Around) (out : List PySem.Env) (s : Shared) (H : Hp) (E : XK)
    (hr : Room k (A.deeper (envOfC "operations_in" (defScope s_operations_in) s.heap.objs.size f cdv))) (hgd : A.guards = some []) :
    PSs (cxOf CX0 P w K mg base ["thing", "amounts", "one"] "operations_in" (defScope s_operations_in) f cdv A out s H E) (defBody s_operations_in) (tGS ⟨K, ce⟩ (fun _ => E) (B_operations_in c)) := by
  have S := sc_operations_in
  exact (psm_cons (psm_if (PW.pt (pwm_or (pt_cm og_notIn (pm_ix og_ix (pm_v 0) (pm_int) (fun _ _ => rfl)) (pm_ge rfl T.g_TESTS) rfl) (pwm_or1 (pt_cm (og_ne hr.units) (pm_cb cg_len rfl T.z_len (by decide +kernel) (pam_cons (pm_v 0) pam_nil)) (pm_int) (nomark _)))))
  (psm_one (psm_ret (pm_non)))
  psm_nil)
  (psm_cons (psm_setLc (j := 1) (own := [("one", 2)]) (p := (.nm 2)) rfl S.nd rfl rfl (sw_true rfl rfl rfl (by decide +kernel)) (pim_e (pm_slice (pm_v 0) (pom_some (pm_int)) pom_none)) (blkOk_by (N := ["thing", "amounts", "one"]) (sc := defScope s_operations_in) (own := [("one", 2)]) (by decide +kernel)) (by decide) (fun _ _ _ _ _ => (pg_name (i := 2) S.nd rfl (Or.inl rfl))) (fun _ _ _ _ _ => ptsm_nil) (fun _ _ _ _ _ => (pm_call (G 3) hr hgd rfl T.m_counted T.k_counted ⟨_, .nil, T.b_counted⟩ (fun _ _ => rvs_nil) px0 (pam_cons (pm_v 2) (pam_cons (pm_ge rfl T.g_MOST_OPERATIONS) pam_nil)))))
  (psm_one (psm_ret (pm_if (pt_cm og_in (pm_non) (pm_v 1) rfl) (pm_non) (pm_cb cg_sum rfl T.z_sum (by decide +kernel) (pam_cons (pm_v 1) pam_nil)))))))
theorem sc_is_joined : FnScope ["thing"] (ps 10) (defScope s_is_joined) := ⟨rfl, rfl, rfl, by decide +kernel, rfl, by decide +kernel, by decide +kernel⟩
set_option maxHeartbeats 16000000 in
theorem d_is_joined (T : Txt K mg ad fd) {k : Nat} {c : Nat → Fn} (G : ∀ i, FG P w K mg base CX0 k (ad i) (fd i) (ps i) (spG ⟨K, ce⟩ (c i))) (hnd : base.NoDigits) {f : Addr} (cdv : Value) (A : Around) (out : List PySem.Env) (s : Shared) (H : Hp) (E : XK)
    (hr : Room k (A.deeper (envOfC "is_joined" (defScope s_is_joined) s.heap.objs.size f cdv))) (hgd : A.guards = some []) :
    PSs (cxOf CX0 P w K mg base ["thing"] "is_joined" (defScope s_is_joined) f cdv A out s H E) (defBody s_is_joined) (tGS ⟨K, ce⟩ (fun _ => E) (B_is_joined c)) := by
  have S := sc_is_joined
  exact (psm_one (psm_ret ((pm_or ((pm_and (pm_cmp og_in (pm_ix og_ix (pm_v 0) (pm_int) (fun _ _ => rfl)) (pm_tup (pam_cons (pm_ge rfl T.g_BOTH) (pam_cons (pm_ge rfl T.g_EITHER) pam_nil))) rfl) (pm_one (pm_cmp (og_eq hr.units) (pm_cb cg_len rfl T.z_len (by decide +kernel) (pam_cons (pm_v 0) pam_nil)) (pm_int) (nomark _))))) (pm_one ((pm_and (pm_cmp (og_eq hr.units) (pm_ix og_ix (pm_v 0) (pm_int) (fun _ _ => rfl)) (pm_ge rfl T.g_NEITHER) (nomark _)) (pm_one (pm_cmp (og_eq hr.units) (pm_cb cg_len rfl T.z_len (by decide +kernel) (pam_cons (pm_v 0) pam_nil)) (pm_int) (nomark _))))))))))
theorem sc_is_statement : FnScope ["thing", "tests", "words", "many", "waiting", "one", "amount"] (ps 11) (defScope s_is_statement) := ⟨rfl, rfl, rfl, by decide +kernel, rfl, by decide +kernel, by decide +kernel⟩
set_option maxHeartbeats 16000000 in
theorem d_is_statement (T : Txt K mg ad fd) {k : Nat} {c : Nat → Fn} (G : ∀ i, FG P w K mg base CX0 k (ad i) (fd i) (ps i) (spG ⟨K, ce⟩ (c i))) (hnd : base.NoDigits) {f : Addr} (cdv : Value) (A : Around) (out : List PySem.Env) (s : Shared) (H : Hp) (E : XK)
    (hr : Room k (A.deeper (envOfC "is_statement" (defScope s_is_statement) s.heap.objs.size f cdv))) (hgd : A.guards = some []) :
    PSs (cxOf CX0 P w K mg base ["thing", "tests", "words", "many", "waiting", "one", "amount"] "is_statement" (defScope s_is_statement) f cdv A out s H E) (defBody s_is_statement) (tGS ⟨K, ce⟩ (fun _ => E) (B_is_statement c)) := by
  have S := sc_is_statement
  exact (psm_cons (psm_asg (p := (.tp [1, 2, 3, 4])) (pm_tup (pam_cons (pm_int) (pam_cons (pm_int) (pam_cons (pm_int) (pam_cons (pm_lst (pam_cons (pm_v 0) pam_nil)) pam_nil))))) (pg_tup rfl (pgs_cons (pg_name (i := 1) S.nd rfl (Or.inl rfl)) (pgs_cons (pg_name (i := 2) S.nd rfl (Or.inl rfl)) (pgs_cons (pg_name (i := 3) S.nd rfl (Or.inl rfl)) (pgs_cons (pg_name (i := 4) S.nd rfl (Or.inl rfl)) pgs_nil))))))
  (psm_cons (psm_wh 1000000 (passes_of rfl) (pt_cm (og_ne hr.units) (pm_v 4) (pm_lst pam_nil) (nomark _))
  (psm_cons (psm_set (j := 5) S.nd rfl (Or.inl rfl) (pm_ml0 PySem.F.slot_list_pop PySem.F.type_list_pop mg_pop (pm_v 4)))
  (psm_cons (psm_if (PW.pt (pwm_or (ptm_not (pt_tru (cg_isi (T := "tuple") (by decide +kernel) (pm_v 5) rfl T.z_isinstance rfl T.z_tuple (by decide +kernel)))) (pwm_or (pt_cm (og_eq hr.units) (pm_v 5) (pm_tup pam_nil) (nomark _)) (pwm_or1 (ptm_not (pt_tru (cg_isi (T := "str") (by decide +kernel) (pm_ix og_ix (pm_v 5) (pm_int) (fun _ _ => rfl)) rfl T.z_isinstance rfl T.z_str (by decide +kernel))))))))
  (psm_one (psm_ret (pm_bl)))
  psm_nil)
  (psm_cons (psm_set (j := 6) S.nd rfl (Or.inl rfl) (pm_call (G 9) hr hgd rfl T.m_operations_in T.k_operations_in ⟨_, .nil, T.b_operations_in⟩ (fun _ _ => rvs_nil) px0 (pam_cons (pm_v 5) pam_nil)))
  (psm_cons (psm_if (PW.pt (pwm_and (pt_cm og_isN (pm_v 6) (pm_non) (nomark _)) (pwm_and1 (ptm_not (pt_tru (pm_call (G 10) hr hgd rfl T.m_is_joined T.k_is_joined ⟨_, .nil, T.b_is_joined⟩ (fun _ _ => rvs_nil) px0 (pam_cons (pm_v 5) pam_nil)))))))
  (psm_one (psm_ret (pm_bl)))
  psm_nil)
  (psm_cons (psm_if (pt_cm og_isN (pm_v 6) (pm_non) (nomark _))
  (psm_cons (psm_set (j := 2) S.nd rfl (Or.inl rfl) (pm_op og_add (pm_v 2) (pm_int)))
  (psm_one (psm_expr (pm_ml PySem.F.slot_list_extend PySem.F.type_list_extend mg_extend (pm_v 4) (pam_cons (pm_ct cg_list rfl T.z_list (by decide +kernel) (pam_cons (pm_slice (pm_v 5) (pom_some (pm_int)) pom_none) pam_nil)) pam_nil)))))
  (psm_cons (psm_set (j := 1) S.nd rfl (Or.inl rfl) (pm_op og_add (pm_v 1) (pm_int)))
  (psm_one (psm_set (j := 3) S.nd rfl (Or.inl rfl) (pm_op og_add (pm_v 3) (pm_v 6))))))
  (psm_one (psm_if (PW.pt (pwm_or (pt_cm og_gt (pm_v 1) (pm_ge rfl T.g_MOST_TESTS) (nomark _)) (pwm_or (pt_cm og_gt (pm_v 2) (pm_ge rfl T.g_MOST_WORDS) (nomark _)) (pwm_or1 (pt_cm og_gt (pm_v 3) (pm_ge rfl T.g_MOST_IN_ALL) (nomark _))))))
  (psm_one (psm_ret (pm_bl)))
  psm_nil))))))))
  (psm_one (psm_ret (pm_bl)))))
theorem sc_need_statement : FnScope ["thing"] (ps 12) (defScope s_need_statement) := ⟨rfl, rfl, rfl, by decide +kernel, rfl, by decide +kernel, by decide +kernel⟩
set_option maxHeartbeats 16000000 in
theorem d_need_statement (T : Txt K mg ad fd) {k : Nat} {c : Nat → Fn} (G : ∀ i, FG P w K mg base CX0 k (ad i) (fd i) (ps i) (spG ⟨K, ce⟩ (c i))) (hnd : base.NoDigits) {f : Addr} (cdv : Value) (A : Around) (out : List PySem.Env) (s : Shared) (H : Hp) (E : XK)
    (hr : Room k (A.deeper (envOfC "need_statement" (defScope s_need_statement) s.heap.objs.size f cdv))) (hgd : A.guards = some []) :
    PSs (cxOf CX0 P w K mg base ["thing"] "need_statement" (defScope s_need_statement) f cdv A out s H E) (defBody s_need_statement) (tGS ⟨K, ce⟩ (fun _ => E) (B_need_statement c)) := by
  have S := sc_need_statement
  exact (psm_one (psm_if (ptm_not (pt_tru (pm_call (G 11) hr hgd rfl T.m_is_statement T.k_is_statement ⟨_, .nil, T.b_is_statement⟩ (fun _ _ => rvs_nil) px0 (pam_cons (pm_v 0) pam_nil))))
  (psm_one (psm_never))
  psm_nil))
theorem sc_plan_of : FnScope ["statement", "found", "waiting", "one"] (ps 13) (defScope s_plan_of) := ⟨rfl, rfl, rfl, by decide +kernel, rfl, by decide +kernel, by decide +kernel⟩
set_option maxHeartbeats 16000000 in
theorem d_plan_of (T : Txt K mg ad fd) {k : Nat} {c : Nat → Fn} (G : ∀ i, FG P w K mg base CX0 k (ad i) (fd i) (ps i) (spG ⟨K, ce⟩ (c i))) (hnd : base.NoDigits) {f : Addr} (cdv : Value) (A : Around) (out : List PySem.Env) (s : Shared) (H : Hp) (E : XK)
    (hr : Room k (A.deeper (envOfC "plan_of" (defScope s_plan_of) s.heap.objs.size f cdv))) (hgd : A.guards = some []) :
    PSs (cxOf CX0 P w K mg base ["statement", "found", "waiting", "one"] "plan_of" (defScope s_plan_of) f cdv A out s H E) (defBody s_plan_of) (tGS ⟨K, ce⟩ (fun _ => E) (B_plan_of c)) := by
  have S := sc_plan_of
  exact (psm_cons (psm_par (j := 1) (k := 2) rfl S.nd rfl rfl (by decide) rfl rfl (pam_cons (pm_lst pam_nil) (pam_cons (pm_lst (pam_cons (pm_v 0) pam_nil)) pam_nil)) (by rfl))
  (psm_cons (psm_wh 1000000 (passes_of rfl) (pt_cm (og_ne hr.units) (pm_v 2) (pm_lst pam_nil) (nomark _))
  (psm_cons (psm_set (j := 3) S.nd rfl (Or.inl rfl) (pm_ml0 PySem.F.slot_list_pop PySem.F.type_list_pop mg_pop (pm_v 2)))
  (psm_cons (psm_expr (pm_ml PySem.F.slot_list_append PySem.F.type_list_append mg_append (pm_v 1) (pam_cons (pm_v 3) pam_nil)))
  (psm_one (psm_if (pt_cm og_notIn (pm_ix og_ix (pm_v 3) (pm_int) (fun _ _ => rfl)) (pm_ge rfl T.g_TESTS) rfl)
  (psm_one (psm_expr (pm_ml PySem.F.slot_list_extend PySem.F.type_list_extend mg_extend (pm_v 2) (pam_cons (pm_ct cg_list rfl T.z_list (by decide +kernel) (pam_cons (pm_slice (pm_v 3) (pom_some (pm_int)) pom_none) pam_nil)) pam_nil))))
  psm_nil)))))
  (psm_one (psm_ret (pm_revL (pm_v 1))))))
theorem sc_judged : FnScope ["plan", "truths", "stack", "at", "one", "last", "first"] (ps 14) (defScope s_judged) := ⟨rfl, rfl, rfl, by decide +kernel, rfl, by decide +kernel, by decide +kernel⟩
set_option maxHeartbeats 16000000 in
theorem d_judged (T : Txt K mg ad fd) {k : Nat} {c : Nat → Fn} (G : ∀ i, FG P w K mg base CX0 k (ad i) (fd i) (ps i) (spG ⟨K, ce⟩ (c i))) (hnd : base.NoDigits) {f : Addr} (cdv : Value) (A : Around) (out : List PySem.Env) (s : Shared) (H : Hp) (E : XK)
    (hr : Room k (A.deeper (envOfC "judged" (defScope s_judged) s.heap.objs.size f cdv))) (hgd : A.guards = some []) :
    PSs (cxOf CX0 P w K mg base ["plan", "truths", "stack", "at", "one", "last", "first"] "judged" (defScope s_judged) f cdv A out s H E) (defBody s_judged) (tGS ⟨K, ce⟩ (fun _ => E) (B_judged c)) := by
  have S := sc_judged
  exact (psm_cons (psm_par (j := 2) (k := 3) rfl S.nd rfl rfl (by decide) rfl rfl (pam_cons (pm_lst pam_nil) (pam_cons (pm_int) pam_nil)) (by rfl))
  (psm_cons (psm_for (p := (.nm 4)) (passes_of rfl) rfl (pim_e (pm_v 0)) (pg_name (i := 4) S.nd rfl (Or.inl rfl))
  (psm_one (psm_if (pt_cm og_in (pm_ix og_ix (pm_v 4) (pm_int) (fun _ _ => rfl)) (pm_ge rfl T.g_TESTS) rfl)
  (psm_cons (psm_expr (pm_ml PySem.F.slot_list_append PySem.F.type_list_append mg_append (pm_v 2) (pam_cons (pm_ix og_ix (pm_v 1) (pm_v 3) (fun _ _ => rfl)) pam_nil)))
  (psm_one (psm_set (j := 3) S.nd rfl (Or.inl rfl) (pm_op og_add (pm_v 3) (pm_int)))))
  (psm_one (psm_if (pt_cm (og_eq hr.units) (pm_ix og_ix (pm_v 4) (pm_int) (fun _ _ => rfl)) (pm_ge rfl T.g_NEITHER) (nomark _))
  (psm_one (psm_expr (pm_ml PySem.F.slot_list_append PySem.F.type_list_append mg_append (pm_v 2) (pam_cons (pm_not (pm_ml0 PySem.F.slot_list_pop PySem.F.type_list_pop mg_pop (pm_v 2))) pam_nil))))
  (psm_cons (psm_par (j := 5) (k := 6) rfl S.nd rfl rfl (by decide) rfl rfl (pam_cons (pm_ml0 PySem.F.slot_list_pop PySem.F.type_list_pop mg_pop (pm_v 2)) (pam_cons (pm_ml0 PySem.F.slot_list_pop PySem.F.type_list_pop mg_pop (pm_v 2)) pam_nil)) (by rfl))
  (psm_one (psm_expr (pm_ml PySem.F.slot_list_append PySem.F.type_list_append mg_append (pm_v 2) (pam_cons (pm_if (pt_cm (og_eq hr.units) (pm_ix og_ix (pm_v 4) (pm_int) (fun _ _ => rfl)) (pm_ge rfl T.g_BOTH) (nomark _)) ((pm_and (pm_v 6) (pm_one (pm_v 5)))) ((pm_or (pm_v 6) (pm_one (pm_v 5))))) pam_nil))))))))))
  (psm_one (psm_ret (pm_ix og_ix (pm_v 2) (pm_int) (fun _ _ => rfl))))))
theorem sc_signed : FnScope ["number", "width"] (ps 15) (defScope s_signed) := ⟨rfl, rfl, rfl, by decide +kernel, rfl, by decide +kernel, by decide +kernel⟩
set_option maxHeartbeats 16000000 in
theorem d_signed (T : Txt K mg ad fd) {k : Nat} {c : Nat → Fn} (G : ∀ i, FG P w K mg base CX0 k (ad i) (fd i) (ps i) (spG ⟨K, ce⟩ (c i))) (hnd : base.NoDigits) {f : Addr} (cdv : Value) (A : Around) (out : List PySem.Env) (s : Shared) (H : Hp) (E : XK)
    (hr : Room k (A.deeper (envOfC "signed" (defScope s_signed) s.heap.objs.size f cdv))) (hgd : A.guards = some []) :
    PSs (cxOf CX0 P w K mg base ["number", "width"] "signed" (defScope s_signed) f cdv A out s H E) (defBody s_signed) (tGS ⟨K, ce⟩ (fun _ => E) (B_signed c)) := by
  have S := sc_signed
  exact (psm_one (psm_ret (pm_if (pt_cm (og_eq hr.units) (pm_op og_shr (pm_v 0) (pm_op og_sub (pm_v 1) (pm_int))) (pm_int) (nomark _)) (pm_op og_sub (pm_v 0) (pm_op og_shl (pm_int) (pm_v 1))) (pm_v 0))))
theorem sc_is_test_true : FnScope ["test", "values", "width", "one", "other"] (ps 16) (defScope s_is_test_true) := ⟨rfl, rfl, rfl, by decide +kernel, rfl, by decide +kernel, by decide +kernel⟩
set_option maxHeartbeats 16000000 in
theorem d_is_test_true (T : Txt K mg ad fd) {k : Nat} {c : Nat → Fn} (G : ∀ i, FG P w K mg base CX0 k (ad i) (fd i) (ps i) (spG ⟨K, ce⟩ (c i))) (hnd : base.NoDigits) {f : Addr} (cdv : Value) (A : Around) (out : List PySem.Env) (s : Shared) (H : Hp) (E : XK)
    (hr : Room k (A.deeper (envOfC "is_test_true" (defScope s_is_test_true) s.heap.objs.size f cdv))) (hgd : A.guards = some []) :
    PSs (cxOf CX0 P w K mg base ["test", "values", "width", "one", "other"] "is_test_true" (defScope s_is_test_true) f cdv A out s H E) (defBody s_is_test_true) (tGS ⟨K, ce⟩ (fun _ => E) (B_is_test_true c)) := by
  have S := sc_is_test_true
  exact (psm_cons (psm_par (j := 3) (k := 4) rfl S.nd rfl rfl (by decide) rfl rfl (pam_cons (pm_call (G 6) hr hgd rfl T.m_value_of T.k_value_of ⟨_, .nil, T.b_value_of⟩ (fun _ _ => rvs_nil) px0 (pam_cons (pm_ix og_ix (pm_v 0) (pm_int) (fun _ _ => rfl)) (pam_cons (pm_v 1) (pam_cons (pm_v 2) pam_nil)))) (pam_cons (pm_call (G 6) hr hgd rfl T.m_value_of T.k_value_of ⟨_, .nil, T.b_value_of⟩ (fun _ _ => rvs_nil) px0 (pam_cons (pm_ix og_ix (pm_v 0) (pm_int) (fun _ _ => rfl)) (pam_cons (pm_v 1) (pam_cons (pm_v 2) pam_nil)))) pam_nil)) (by rfl))
  (psm_cons (psm_if (pt_cm (og_eq hr.units) (pm_ix og_ix (pm_v 0) (pm_int) (fun _ _ => rfl)) (pm_str) (nomark _))
  (psm_one (psm_ret (pm_cmp (og_eq hr.units) (pm_v 3) (pm_v 4) (nomark _))))
  psm_nil)
  (psm_one (psm_ret (pm_if (pt_cm (og_eq hr.units) (pm_ix og_ix (pm_v 0) (pm_int) (fun _ _ => rfl)) (pm_str) (nomark _)) (pm_cmp og_lt (pm_v 3) (pm_v 4) (nomark _)) (pm_cmp og_lt (pm_call (G 15) hr hgd rfl T.m_signed T.k_signed ⟨_, .nil, T.b_signed⟩ (fun _ _ => rvs_nil) px0 (pam_cons (pm_v 3) (pam_cons (pm_v 2) pam_nil))) (pm_call (G 15) hr hgd rfl T.m_signed T.k_signed ⟨_, .nil, T.b_signed⟩ (fun _ _ => rvs_nil) px0 (pam_cons (pm_v 4) (pam_cons (pm_v 2) pam_nil))) (nomark _)))))))
theorem sc_is_true_of : FnScope ["statement", "values", "width", "plan", "one"] (ps 17) (defScope s_is_true_of) := ⟨rfl, rfl, rfl, by decide +kernel, rfl, by decide +kernel, by decide +kernel⟩
set_option maxHeartbeats 16000000 in
theorem d_is_true_of (T : Txt K mg ad fd) {k : Nat} {c : Nat → Fn} (G : ∀ i, FG P w K mg base CX0 k (ad i) (fd i) (ps i) (spG ⟨K, ce⟩ (c i))) (hnd : base.NoDigits) {f : Addr} (cdv : Value) (A : Around) (out : List PySem.Env) (s : Shared) (H : Hp) (E : XK)
    (hr : Room k (A.deeper (envOfC "is_true_of" (defScope s_is_true_of) s.heap.objs.size f cdv))) (hgd : A.guards = some []) :
    PSs (cxOf CX0 P w K mg base ["statement", "values", "width", "plan", "one"] "is_true_of" (defScope s_is_true_of) f cdv A out s H E) (defBody s_is_true_of) (tGS ⟨K, ce⟩ (fun _ => E) (B_is_true_of c)) := by
  have S := sc_is_true_of
  exact (psm_cons (psm_set (j := 3) S.nd rfl (Or.inl rfl) (pm_call (G 13) hr hgd rfl T.m_plan_of T.k_plan_of ⟨_, .nil, T.b_plan_of⟩ (fun _ _ => rvs_nil) px0 (pam_cons (pm_v 0) pam_nil)))
  (psm_one (psm_ret (pm_call (G 14) hr hgd rfl T.m_judged T.k_judged ⟨_, .nil, T.b_judged⟩ (fun _ _ => rvs_nil) px0 (pam_cons (pm_v 3) (pam_cons (pm_lc (own := [("one", 4)]) (p := (.nm 4)) rfl S.nd (pim_e (pm_v 3)) (blkOk_by (N := ["statement", "values", "width", "plan", "one"]) (sc := defScope s_is_true_of) (own := [("one", 4)]) (by decide +kernel)) (by decide) (fun _ _ _ _ _ => (pg_name (i := 4) S.nd rfl (Or.inl rfl))) (fun _ _ _ _ _ => (ptsm_one (pt_cm og_in (pm_ix og_ix (pm_v 4) (pm_int) (fun _ _ => rfl)) (pm_ge rfl T.g_TESTS) rfl))) (fun _ _ _ _ _ => (pm_call (G 16) hr hgd rfl T.m_is_test_true T.k_is_test_true ⟨_, .nil, T.b_is_test_true⟩ (fun _ _ => rvs_nil) px0 (pam_cons (pm_v 4) (pam_cons (pm_v 1) (pam_cons (pm_v 2) pam_nil)))))) pam_nil))))))
theorem sc_is_true : FnScope ["statement", "values", "width"] (ps 18) (defScope s_is_true) := ⟨rfl, rfl, rfl, by decide +kernel, rfl, by decide +kernel, by decide +kernel⟩
set_option maxHeartbeats 16000000 in
theorem d_is_true (T : Txt K mg ad fd) {k : Nat} {c : Nat → Fn} (G : ∀ i, FG P w K mg base CX0 k (ad i) (fd i) (ps i) (spG ⟨K, ce⟩ (c i))) (hnd : base.NoDigits) {f : Addr} (cdv : Value) (A : Around) (out : List PySem.Env) (s : Shared) (H : Hp) (E : XK)
    (hr : Room k (A.deeper (envOfC "is_true" (defScope s_is_true) s.heap.objs.size f cdv))) (hgd : A.guards = some []) :
    PSs (cxOf CX0 P w K mg base ["statement", "values", "width"] "is_true" (defScope s_is_true) f cdv A out s H E) (defBody s_is_true) (tGS ⟨K, ce⟩ (fun _ => E) (B_is_true c)) := by
  have S := sc_is_true
  exact (psm_cons (psm_expr (pm_call (G 12) hr hgd rfl T.m_need_statement T.k_need_statement ⟨_, .nil, T.b_need_statement⟩ (fun _ _ => rvs_nil) px0 (pam_cons (pm_v 0) pam_nil)))
  (psm_cons (psm_expr (pm_call (G 7) hr hgd rfl T.m_need_values T.k_need_values T.b_need_values_1 (fun _ _ => (rvs_cons (rv_int _) rvs_nil)) px0 (pam_cons (pm_v 1) pam_nil)))
  (psm_cons (psm_expr (pm_call (G 8) hr hgd rfl T.m_need_width T.k_need_width T.b_need_width_1 (fun _ _ => (rvs_cons (rv_int _) rvs_nil)) px0 (pam_cons (pm_v 2) pam_nil)))
  (psm_one (psm_ret (pm_call (G 17) hr hgd rfl T.m_is_true_of T.k_is_true_of ⟨_, .nil, T.b_is_true_of⟩ (fun _ _ => rvs_nil) px0 (pam_cons (pm_v 0) (pam_cons (pm_v 1) (pam_cons (pm_v 2) pam_nil)))))))))
theorem sc_law_cell : FnScope ["_law_script", "_law_k"] (ps 19) (defScope s_law_cell) := ⟨rfl, rfl, rfl, by decide +kernel, rfl, by decide +kernel, by decide +kernel⟩
set_option maxHeartbeats 16000000 in
theorem d_law_cell (T : Txt K mg ad fd) {k : Nat} {c : Nat → Fn} (G : ∀ i, FG P w K mg base CX0 k (ad i) (fd i) (ps i) (spG ⟨K, ce⟩ (c i))) (hnd : base.NoDigits) {f : Addr} (cdv : Value) (A : Around) (out : List PySem.Env) (s : Shared) (H : Hp) (E : XK)
    (hr : Room k (A.deeper (envOfC "_law_cell" (defScope s_law_cell) s.heap.objs.size f cdv))) (hgd : A.guards = some []) :
    PSs (cxOf CX0 P w K mg base ["_law_script", "_law_k"] "_law_cell" (defScope s_law_cell) f cdv A out s H E) (defBody s_law_cell) (tGS ⟨K, ce⟩ (fun _ => E) (B_law_cell c)) := by
  have S := sc_law_cell
  exact (psm_cons (psm_if (pt_cm og_lt (pm_v 1) (pm_cb cg_len rfl T.z_len (by decide +kernel) (pam_cons (pm_v 0) pam_nil)) (nomark _))
  (psm_one (psm_ret (pm_ix og_ix (pm_v 0) (pm_v 1) (fun _ _ => rfl))))
  psm_nil)
  (psm_one (psm_ret (pm_int))))
theorem sc_law_pen : FnScope ["_law_cell_here"] (ps 20) (defScope s_law_pen) := ⟨rfl, rfl, rfl, by decide +kernel, rfl, by decide +kernel, by decide +kernel⟩
set_option maxHeartbeats 16000000 in
theorem d_law_pen (T : Txt K mg ad fd) {k : Nat} {c : Nat → Fn} (G : ∀ i, FG P w K mg base CX0 k (ad i) (fd i) (ps i) (spG ⟨K, ce⟩ (c i))) (hnd : base.NoDigits) {f : Addr} (cdv : Value) (A : Around) (out : List PySem.Env) (s : Shared) (H : Hp) (E : XK)
    (hr : Room k (A.deeper (envOfC "_law_pen" (defScope s_law_pen) s.heap.objs.size f cdv))) (hgd : A.guards = some []) :
    PSs (cxOf CX0 P w K mg base ["_law_cell_here"] "_law_pen" (defScope s_law_pen) f cdv A out s H E) (defBody s_law_pen) (tGS ⟨K, ce⟩ (fun _ => E) (B_law_pen c)) := by
  have S := sc_law_pen
  exact (psm_one (psm_ret (pm_lst (pam_cons (pm_cb cg_max rfl T.z_max (by decide +kernel) (pam_cons (pm_int) (pam_cons (pm_op og_sub (pm_v 0) (pm_op og_pow (pm_int) (pm_int))) pam_nil))) (pam_cons (pm_op og_add (pm_op og_mod (pm_v 0) (pm_int)) (pm_int)) (pam_cons (pm_int) pam_nil))))))
theorem sc_law_draw : FnScope ["_law_pen_here", "_law_many", "_law_found", "_law_stirred"] (ps 21) (defScope s_law_draw) := ⟨rfl, rfl, rfl, by decide +kernel, rfl, by decide +kernel, by decide +kernel⟩
set_option maxHeartbeats 16000000 in
theorem d_law_draw (T : Txt K mg ad fd) {k : Nat} {c : Nat → Fn} (G : ∀ i, FG P w K mg base CX0 k (ad i) (fd i) (ps i) (spG ⟨K, ce⟩ (c i))) (hnd : base.NoDigits) {f : Addr} (cdv : Value) (A : Around) (out : List PySem.Env) (s : Shared) (H : Hp) (E : XK)
    (hr : Room k (A.deeper (envOfC "_law_draw" (defScope s_law_draw) s.heap.objs.size f cdv))) (hgd : A.guards = some []) :
    PSs (cxOf CX0 P w K mg base ["_law_pen_here", "_law_many", "_law_found", "_law_stirred"] "_law_draw" (defScope s_law_draw) f cdv A out s H E) (defBody s_law_draw) (tGS ⟨K, ce⟩ (fun _ => E) (B_law_draw c)) := by
  have S := sc_law_draw
  exact (psm_cons (psm_if (pt_cm og_gt (pm_ix og_ix (pm_v 0) (pm_int) (fun _ _ => rfl)) (pm_int) (nomark _))
  (psm_cons (psm_set (j := 2) S.nd rfl (Or.inl rfl) (pm_op og_mod (pm_ix og_ix (pm_v 0) (pm_int) (fun _ _ => rfl)) (pm_v 1)))
  (psm_cons (psm_sub hr.units (pm_op og_div (pm_ix og_ix (pm_v 0) (pm_int) (fun _ _ => rfl)) (pm_v 1)) (pm_v 0) (pm_int))
  (psm_one (psm_ret (pm_v 2)))))
  psm_nil)
  (psm_cons (psm_sub hr.units (pm_op og_add (pm_ix og_ix (pm_v 0) (pm_int) (fun _ _ => rfl)) (pm_int)) (pm_v 0) (pm_int))
  (psm_cons (psm_sub hr.units (pm_op og_mod (pm_op og_add (pm_op og_add (pm_op og_mul (pm_ix og_ix (pm_v 0) (pm_int) (fun _ _ => rfl)) (pm_int)) (pm_op og_mul (pm_int) (pm_ix og_ix (pm_v 0) (pm_int) (fun _ _ => rfl)))) (pm_int)) (pm_int)) (pm_v 0) (pm_int))
  (psm_cons (psm_set (j := 3) S.nd rfl (Or.inl rfl) (pm_op og_mod (pm_op og_add (pm_op og_add (pm_op og_mul (pm_ix og_ix (pm_v 0) (pm_int) (fun _ _ => rfl)) (pm_ix og_ix (pm_v 0) (pm_int) (fun _ _ => rfl))) (pm_op og_mul (pm_int) (pm_ix og_ix (pm_v 0) (pm_int) (fun _ _ => rfl)))) (pm_int)) (pm_int)))
  (psm_cons (psm_set (j := 3) S.nd rfl (Or.inl rfl) (pm_op og_mod (pm_op og_add (pm_op og_mul (pm_v 3) (pm_v 3)) (pm_op og_mul (pm_int) (pm_v 3))) (pm_int)))
  (psm_one (psm_ret (pm_op og_mod (pm_op og_div (pm_v 3) (pm_int)) (pm_v 1)))))))))
theorem sc_law_pick : FnScope ["_law_pen_here", "_law_these"] (ps 22) (defScope s_law_pick) := ⟨rfl, rfl, rfl, by decide +kernel, rfl, by decide +kernel, by decide +kernel⟩
set_option maxHeartbeats 16000000 in
theorem d_law_pick (T : Txt K mg ad fd) {k : Nat} {c : Nat → Fn} (G : ∀ i, FG P w K mg base CX0 k (ad i) (fd i) (ps i) (spG ⟨K, ce⟩ (c i))) (hnd : base.NoDigits) {f : Addr} (cdv : Value) (A : Around) (out : List PySem.Env) (s : Shared) (H : Hp) (E : XK)
    (hr : Room k (A.deeper (envOfC "_law_pick" (defScope s_law_pick) s.heap.objs.size f cdv))) (hgd : A.guards = some []) :
    PSs (cxOf CX0 P w K mg base ["_law_pen_here", "_law_these"] "_law_pick" (defScope s_law_pick) f cdv A out s H E) (defBody s_law_pick) (tGS ⟨K, ce⟩ (fun _ => E) (B_law_pick c)) := by
  have S := sc_law_pick
  exact (psm_one (psm_ret (pm_ix og_ix (pm_v 1) (pm_call (G 21) hr hgd rfl T.m_law_draw T.k_law_draw ⟨_, .nil, T.b_law_draw⟩ (fun _ _ => rvs_nil) px0 (pam_cons (pm_v 0) (pam_cons (pm_cb cg_len rfl T.z_len (by decide +kernel) (pam_cons (pm_v 1) pam_nil)) pam_nil))) (fun _ _ => rfl))))
theorem sc_law_same : FnScope ["_law_found", "_law_due"] (ps 23) (defScope s_law_same) := ⟨rfl, rfl, rfl, by decide +kernel, rfl, by decide +kernel, by decide +kernel⟩
set_option maxHeartbeats 16000000 in
theorem d_law_same (T : Txt K mg ad fd) {k : Nat} {c : Nat → Fn} (G : ∀ i, FG P w K mg base CX0 k (ad i) (fd i) (ps i) (spG ⟨K, ce⟩ (c i))) (hnd : base.NoDigits) {f : Addr} (cdv : Value) (A : Around) (out : List PySem.Env) (s : Shared) (H : Hp) (E : XK)
    (hr : Room k (A.deeper (envOfC "_law_same" (defScope s_law_same) s.heap.objs.size f cdv))) (hgd : A.guards = some []) :
    PSs (cxOf CX0 P w K mg base ["_law_found", "_law_due"] "_law_same" (defScope s_law_same) f cdv A out s H E) (defBody s_law_same) (tGS ⟨K, ce⟩ (fun _ => E) (B_law_same c)) := by
  have S := sc_law_same
  exact (psm_one (psm_ret (pm_cmp (og_eq hr.units) (pm_cb (cg_repr hgd hr.units hnd) rfl T.z_repr (by decide +kernel) (pam_cons (pm_v 0) pam_nil)) (pm_cb (cg_repr hgd hr.units hnd) rfl T.z_repr (by decide +kernel) (pam_cons (pm_v 1) pam_nil)) (nomark _))))
theorem sc_law_leaf : FnScope ["_law_pen_here", "_law_far"] (ps 24) (defScope s_law_leaf) := ⟨rfl, rfl, rfl, by decide +kernel, rfl, by decide +kernel, by decide +kernel⟩
set_option maxHeartbeats 16000000 in
theorem d_law_leaf (T : Txt K mg ad fd) {k : Nat} {c : Nat → Fn} (G : ∀ i, FG P w K mg base CX0 k (ad i) (fd i) (ps i) (spG ⟨K, ce⟩ (c i))) (hnd : base.NoDigits) {f : Addr} (cdv : Value) (A : Around) (out : List PySem.Env) (s : Shared) (H : Hp) (E : XK)
    (hr : Room k (A.deeper (envOfC "_law_leaf" (defScope s_law_leaf) s.heap.objs.size f cdv))) (hgd : A.guards = some []) :
    PSs (cxOf CX0 P w K mg base ["_law_pen_here", "_law_far"] "_law_leaf" (defScope s_law_leaf) f cdv A out s H E) (defBody s_law_leaf) (tGS ⟨K, ce⟩ (fun _ => E) (B_law_leaf c)) := by
  have S := sc_law_leaf
  exact (psm_cons (psm_if (pt_cm og_gt (pm_call (G 21) hr hgd rfl T.m_law_draw T.k_law_draw ⟨_, .nil, T.b_law_draw⟩ (fun _ _ => rvs_nil) px0 (pam_cons (pm_v 0) (pam_cons (pm_int) pam_nil))) (pm_int) (nomark _))
  (psm_one (psm_ret (pm_tup (pam_cons (pm_str) (pam_cons (pm_call (G 21) hr hgd rfl T.m_law_draw T.k_law_draw ⟨_, .nil, T.b_law_draw⟩ (fun _ _ => rvs_nil) px0 (pam_cons (pm_v 0) (pam_cons (pm_int) pam_nil))) pam_nil)))))
  psm_nil)
  (psm_one (psm_ret (pm_tup (pam_cons (pm_str) (pam_cons (pm_call (G 22) hr hgd rfl T.m_law_pick T.k_law_pick ⟨_, .nil, T.b_law_pick⟩ (fun _ _ => rvs_nil) px0 (pam_cons (pm_v 0) (pam_cons (pm_lst (pam_cons (pm_int) (pam_cons (pm_int) (pam_cons (pm_un og_neg (pm_int)) (pam_cons (pm_int) (pam_cons (pm_int) (pam_cons (pm_op og_sub (pm_int) (pm_v 1)) (pam_cons (pm_v 1) (pam_cons (pm_op og_sub (pm_call (G 21) hr hgd rfl T.m_law_draw T.k_law_draw ⟨_, .nil, T.b_law_draw⟩ (fun _ _ => rvs_nil) px0 (pam_cons (pm_v 0) (pam_cons (pm_op og_add (pm_op og_mul (pm_int) (pm_v 1)) (pm_int)) pam_nil))) (pm_v 1)) pam_nil))))))))) pam_nil))) pam_nil))))))
theorem sc_law_drawn : FnScope ["_law_pen_here", "_law_most", "_law_far", "_law_shifts", "_law_scales", "_law_word", "_law_number", "_law_own", "_law_one"] (ps 25) (defScope s_law_drawn) := ⟨rfl, rfl, rfl, by decide +kernel, rfl, by decide +kernel, by decide +kernel⟩
set_option maxHeartbeats 16000000 in
theorem d_law_drawn (T : Txt K mg ad fd) {k : Nat} {c : Nat → Fn} (G : ∀ i, FG P w K mg base CX0 k (ad i) (fd i) (ps i) (spG ⟨K, ce⟩ (c i))) (hnd : base.NoDigits) {f : Addr} (cdv : Value) (A : Around) (out : List PySem.Env) (s : Shared) (H : Hp) (E : XK)
    (hr : Room k (A.deeper (envOfC "_law_drawn" (defScope s_law_drawn) s.heap.objs.size f cdv))) (hgd : A.guards = some []) :
    PSs (cxOf CX0 P w K mg base ["_law_pen_here", "_law_most", "_law_far", "_law_shifts", "_law_scales", "_law_word", "_law_number", "_law_own", "_law_one"] "_law_drawn" (defScope s_law_drawn) f cdv A out s H E) (defBody s_law_drawn) (tGS ⟨K, ce⟩ (fun _ => E) (B_law_drawn c)) := by
  have S := sc_law_drawn
  exact (psm_cons (psm_if (PW.pt (pwm_or (pt_cm (og_eq hr.units) (pm_v 1) (pm_int) (nomark _)) (pwm_or1 (pt_cm (og_eq hr.units) (pm_call (G 21) hr hgd rfl T.m_law_draw T.k_law_draw ⟨_, .nil, T.b_law_draw⟩ (fun _ _ => rvs_nil) px0 (pam_cons (pm_v 0) (pam_cons (pm_int) pam_nil))) (pm_int) (nomark _)))))
  (psm_one (psm_ret (pm_call (G 24) hr hgd rfl T.m_law_leaf T.k_law_leaf ⟨_, .nil, T.b_law_leaf⟩ (fun _ _ => rvs_nil) px0 (pam_cons (pm_v 0) (pam_cons (pm_v 2) pam_nil)))))
  psm_nil)
  (psm_cons (psm_set (j := 5) S.nd rfl (Or.inl rfl) (pm_call (G 22) hr hgd rfl T.m_law_pick T.k_law_pick ⟨_, .nil, T.b_law_pick⟩ (fun _ _ => rvs_nil) px0 (pam_cons (pm_v 0) (pam_cons (pm_lst (pam_cons (pm_str) (pam_cons (pm_str) (pam_cons (pm_str) (pam_cons (pm_str) (pam_cons (pm_str) (pam_cons (pm_str) (pam_cons (pm_str) (pam_cons (pm_str) (pam_cons (pm_str) (pam_cons (pm_str) pam_nil))))))))))) pam_nil))))
  (psm_cons (psm_if (pt_cm (og_eq hr.units) (pm_v 5) (pm_str) (nomark _))
  (psm_one (psm_ret (pm_tup (pam_cons (pm_v 5) (pam_cons (pm_call (G 25) hr hgd rfl T.m_law_drawn T.k_law_drawn ⟨_, .nil, T.b_law_drawn⟩ (fun _ _ => rvs_nil) px0 (pam_cons (pm_v 0) (pam_cons (pm_op og_sub (pm_v 1) (pm_int)) (pam_cons (pm_v 2) (pam_cons (pm_v 3) (pam_cons (pm_v 4) pam_nil)))))) pam_nil)))))
  psm_nil)
  (psm_cons (psm_if (pt_cm (og_eq hr.units) (pm_v 5) (pm_str) (nomark _))
  (psm_one (psm_ret (pm_tup (pam_cons (pm_v 5) (pam_cons (pm_call (G 25) hr hgd rfl T.m_law_drawn T.k_law_drawn ⟨_, .nil, T.b_law_drawn⟩ (fun _ _ => rvs_nil) px0 (pam_cons (pm_v 0) (pam_cons (pm_op og_sub (pm_v 1) (pm_int)) (pam_cons (pm_v 2) (pam_cons (pm_v 3) (pam_cons (pm_v 4) pam_nil)))))) (pam_cons (pm_op og_add (pm_int) (pm_call (G 21) hr hgd rfl T.m_law_draw T.k_law_draw ⟨_, .nil, T.b_law_draw⟩ (fun _ _ => rvs_nil) px0 (pam_cons (pm_v 0) (pam_cons (pm_v 3) pam_nil)))) pam_nil))))))
  psm_nil)
  (psm_cons (psm_if (pt_cm (og_eq hr.units) (pm_v 5) (pm_str) (nomark _))
  (psm_cons (psm_set (j := 6) S.nd rfl (Or.inl rfl) (pm_op og_sub (pm_call (G 21) hr hgd rfl T.m_law_draw T.k_law_draw ⟨_, .nil, T.b_law_draw⟩ (fun _ _ => rvs_nil) px0 (pam_cons (pm_v 0) (pam_cons (pm_op og_add (pm_op og_mul (pm_int) (pm_v 4)) (pm_int)) pam_nil))) (pm_v 4)))
  (psm_one (psm_ret (pm_tup (pam_cons (pm_v 5) (pam_cons (pm_v 6) (pam_cons (pm_call (G 25) hr hgd rfl T.m_law_drawn T.k_law_drawn ⟨_, .nil, T.b_law_drawn⟩ (fun _ _ => rvs_nil) px0 (pam_cons (pm_v 0) (pam_cons (pm_op og_sub (pm_v 1) (pm_int)) (pam_cons (pm_v 2) (pam_cons (pm_v 3) (pam_cons (pm_v 4) pam_nil)))))) pam_nil)))))))
  psm_nil)
  (psm_cons (psm_set (j := 7) S.nd rfl (Or.inl rfl) (pm_call (G 21) hr hgd rfl T.m_law_draw T.k_law_draw ⟨_, .nil, T.b_law_draw⟩ (fun _ _ => rvs_nil) px0 (pam_cons (pm_v 0) (pam_cons (pm_v 1) pam_nil))))
  (psm_cons (psm_set (j := 8) S.nd rfl (Or.inl rfl) (pm_call (G 25) hr hgd rfl T.m_law_drawn T.k_law_drawn ⟨_, .nil, T.b_law_drawn⟩ (fun _ _ => rvs_nil) px0 (pam_cons (pm_v 0) (pam_cons (pm_v 7) (pam_cons (pm_v 2) (pam_cons (pm_v 3) (pam_cons (pm_v 4) pam_nil)))))))
  (psm_one (psm_ret (pm_tup (pam_cons (pm_v 5) (pam_cons (pm_v 8) (pam_cons (pm_call (G 25) hr hgd rfl T.m_law_drawn T.k_law_drawn ⟨_, .nil, T.b_law_drawn⟩ (fun _ _ => rvs_nil) px0 (pam_cons (pm_v 0) (pam_cons (pm_op og_sub (pm_op og_sub (pm_v 1) (pm_int)) (pm_v 7)) (pam_cons (pm_v 2) (pam_cons (pm_v 3) (pam_cons (pm_v 4) pam_nil)))))) pam_nil)))))))))))))
theorem sc_law_any : FnScope ["_law_pen_here", "_law_most"] (ps 26) (defScope s_law_any) := ⟨rfl, rfl, rfl, by decide +kernel, rfl, by decide +kernel, by decide +kernel⟩
set_option maxHeartbeats 16000000 in
theorem d_law_any (T : Txt K mg ad fd) {k : Nat} {c : Nat → Fn} (G : ∀ i, FG P w K mg base CX0 k (ad i) (fd i) (ps i) (spG ⟨K, ce⟩ (c i))) (hnd : base.NoDigits) {f : Addr} (cdv : Value) (A : Around) (out : List PySem.Env) (s : Shared) (H : Hp) (E : XK)
    (hr : Room k (A.deeper (envOfC "_law_any" (defScope s_law_any) s.heap.objs.size f cdv))) (hgd : A.guards = some []) :
    PSs (cxOf CX0 P w K mg base ["_law_pen_here", "_law_most"] "_law_any" (defScope s_law_any) f cdv A out s H E) (defBody s_law_any) (tGS ⟨K, ce⟩ (fun _ => E) (B_law_any c)) := by
  have S := sc_law_any
  exact (psm_one (psm_ret (pm_call (G 25) hr hgd rfl T.m_law_drawn T.k_law_drawn ⟨_, .nil, T.b_law_drawn⟩ (fun _ _ => rvs_nil) px0 (pam_cons (pm_v 0) (pam_cons (pm_v 1) (pam_cons (pm_int) (pam_cons (pm_int) (pam_cons (pm_int) pam_nil))))))))
theorem sc_law_mild : FnScope ["_law_pen_here", "_law_most"] (ps 27) (defScope s_law_mild) := ⟨rfl, rfl, rfl, by decide +kernel, rfl, by decide +kernel, by decide +kernel⟩
set_option maxHeartbeats 16000000 in
theorem d_law_mild (T : Txt K mg ad fd) {k : Nat} {c : Nat → Fn} (G : ∀ i, FG P w K mg base CX0 k (ad i) (fd i) (ps i) (spG ⟨K, ce⟩ (c i))) (hnd : base.NoDigits) {f : Addr} (cdv : Value) (A : Around) (out : List PySem.Env) (s : Shared) (H : Hp) (E : XK)
    (hr : Room k (A.deeper (envOfC "_law_mild" (defScope s_law_mild) s.heap.objs.size f cdv))) (hgd : A.guards = some []) :
    PSs (cxOf CX0 P w K mg base ["_law_pen_here", "_law_most"] "_law_mild" (defScope s_law_mild) f cdv A out s H E) (defBody s_law_mild) (tGS ⟨K, ce⟩ (fun _ => E) (B_law_mild c)) := by
  have S := sc_law_mild
  exact (psm_one (psm_ret (pm_call (G 25) hr hgd rfl T.m_law_drawn T.k_law_drawn ⟨_, .nil, T.b_law_drawn⟩ (fun _ _ => rvs_nil) px0 (pam_cons (pm_v 0) (pam_cons (pm_v 1) (pam_cons (pm_int) (pam_cons (pm_int) (pam_cons (pm_int) pam_nil))))))))
theorem sc_law_worth : FnScope ["_law_form", "_law_numbers_here", "_law_word", "_law_one", "_law_other"] (ps 28) (defScope s_law_worth) := ⟨rfl, rfl, rfl, by decide +kernel, rfl, by decide +kernel, by decide +kernel⟩
set_option maxHeartbeats 16000000 in
theorem d_law_worth (T : Txt K mg ad fd) {k : Nat} {c : Nat → Fn} (G : ∀ i, FG P w K mg base CX0 k (ad i) (fd i) (ps i) (spG ⟨K, ce⟩ (c i))) (hnd : base.NoDigits) {f : Addr} (cdv : Value) (A : Around) (out : List PySem.Env) (s : Shared) (H : Hp) (E : XK)
    (hr : Room k (A.deeper (envOfC "_law_worth" (defScope s_law_worth) s.heap.objs.size f cdv))) (hgd : A.guards = some []) :
    PSs (cxOf CX0 P w K mg base ["_law_form", "_law_numbers_here", "_law_word", "_law_one", "_law_other"] "_law_worth" (defScope s_law_worth) f cdv A out s H E) (defBody s_law_worth) (tGS ⟨K, ce⟩ (fun _ => E) (B_law_worth c)) := by
  have S := sc_law_worth
  exact (psm_cons (psm_set (j := 2) S.nd rfl (Or.inl rfl) (pm_ix og_ix (pm_v 0) (pm_int) (fun _ _ => rfl)))
  (psm_cons (psm_if (PW.pt (pwm_or (pt_cm (og_eq hr.units) (pm_v 2) (pm_str) (nomark _)) (pwm_or1 (pt_cm (og_eq hr.units) (pm_v 2) (pm_str) (nomark _)))))
  (psm_one (psm_ret (pm_if (pt_cm (og_eq hr.units) (pm_v 2) (pm_str) (nomark _)) (pm_ix og_ix (pm_v 1) (pm_ix og_ix (pm_v 0) (pm_int) (fun _ _ => rfl)) (fun _ _ => rfl)) (pm_ix og_ix (pm_v 0) (pm_int) (fun _ _ => rfl)))))
  psm_nil)
  (psm_cons (psm_if (pt_cm (og_eq hr.units) (pm_v 2) (pm_str) (nomark _))
  (psm_one (psm_ret (pm_op og_sub (pm_op og_sub (pm_int) (pm_call (G 28) hr hgd rfl T.m_law_worth T.k_law_worth ⟨_, .nil, T.b_law_worth⟩ (fun _ _ => rvs_nil) px0 (pam_cons (pm_ix og_ix (pm_v 0) (pm_int) (fun _ _ => rfl)) (pam_cons (pm_v 1) pam_nil)))) (pm_int))))
  psm_nil)
  (psm_cons (psm_if (pt_cm (og_eq hr.units) (pm_v 2) (pm_str) (nomark _))
  (psm_one (psm_ret (pm_op og_mul (pm_call (G 28) hr hgd rfl T.m_law_worth T.k_law_worth ⟨_, .nil, T.b_law_worth⟩ (fun _ _ => rvs_nil) px0 (pam_cons (pm_ix og_ix (pm_v 0) (pm_int) (fun _ _ => rfl)) (pam_cons (pm_v 1) pam_nil))) (pm_call (G 29) hr hgd rfl T.m_law_two T.k_law_two ⟨_, .nil, T.b_law_two⟩ (fun _ _ => rvs_nil) px0 (pam_cons (pm_ix og_ix (pm_v 0) (pm_int) (fun _ _ => rfl)) pam_nil)))))
  psm_nil)
  (psm_cons (psm_if (pt_cm (og_eq hr.units) (pm_v 2) (pm_str) (nomark _))
  (psm_one (psm_ret (pm_op og_mul (pm_ix og_ix (pm_v 0) (pm_int) (fun _ _ => rfl)) (pm_call (G 28) hr hgd rfl T.m_law_worth T.k_law_worth ⟨_, .nil, T.b_law_worth⟩ (fun _ _ => rvs_nil) px0 (pam_cons (pm_ix og_ix (pm_v 0) (pm_int) (fun _ _ => rfl)) (pam_cons (pm_v 1) pam_nil))))))
  psm_nil)
  (psm_cons (psm_par (j := 3) (k := 4) rfl S.nd rfl rfl (by decide) rfl rfl (pam_cons (pm_call (G 28) hr hgd rfl T.m_law_worth T.k_law_worth ⟨_, .nil, T.b_law_worth⟩ (fun _ _ => rvs_nil) px0 (pam_cons (pm_ix og_ix (pm_v 0) (pm_int) (fun _ _ => rfl)) (pam_cons (pm_v 1) pam_nil))) (pam_cons (pm_call (G 28) hr hgd rfl T.m_law_worth T.k_law_worth ⟨_, .nil, T.b_law_worth⟩ (fun _ _ => rvs_nil) px0 (pam_cons (pm_ix og_ix (pm_v 0) (pm_int) (fun _ _ => rfl)) (pam_cons (pm_v 1) pam_nil))) pam_nil)) (by rfl))
  (psm_cons (psm_if (PW.pt (pwm_or (pt_cm (og_eq hr.units) (pm_v 2) (pm_str) (nomark _)) (pwm_or1 (pt_cm (og_eq hr.units) (pm_v 2) (pm_str) (nomark _)))))
  (psm_one (psm_ret (pm_if (pt_cm (og_eq hr.units) (pm_v 2) (pm_str) (nomark _)) (pm_op og_add (pm_v 3) (pm_v 4)) (pm_op og_sub (pm_v 3) (pm_v 4)))))
  psm_nil)
  (psm_one (psm_ret (pm_if (pt_cm (og_eq hr.units) (pm_v 2) (pm_str) (nomark _)) (pm_op og_and (pm_v 3) (pm_v 4)) (pm_if (pt_cm (og_eq hr.units) (pm_v 2) (pm_str) (nomark _)) (pm_op og_or (pm_v 3) (pm_v 4)) (pm_op og_xor (pm_v 3) (pm_v 4)))))))))))))
theorem sc_law_two : FnScope ["_law_width", "_law_found", "_law_turn"] (ps 29) (defScope s_law_two) := ⟨rfl, rfl, rfl, by decide +kernel, rfl, by decide +kernel, by decide +kernel⟩
set_option maxHeartbeats 16000000 in
theorem d_law_two (T : Txt K mg ad fd) {k : Nat} {c : Nat → Fn} (G : ∀ i, FG P w K mg base CX0 k (ad i) (fd i) (ps i) (spG ⟨K, ce⟩ (c i))) (hnd : base.NoDigits) {f : Addr} (cdv : Value) (A : Around) (out : List PySem.Env) (s : Shared) (H : Hp) (E : XK)
    (hr : Room k (A.deeper (envOfC "_law_two" (defScope s_law_two) s.heap.objs.size f cdv))) (hgd : A.guards = some []) :
    PSs (cxOf CX0 P w K mg base ["_law_width", "_law_found", "_law_turn"] "_law_two" (defScope s_law_two) f cdv A out s H E) (defBody s_law_two) (tGS ⟨K, ce⟩ (fun _ => E) (B_law_two c)) := by
  have S := sc_law_two
  exact (psm_cons (psm_set (j := 1) S.nd rfl (Or.inl rfl) (pm_int))
  (psm_cons (psm_for (p := (.nm 2)) (passes_of rfl) rfl (pim_r1 rfl T.z_range (pm_v 0)) (pg_name (i := 2) S.nd rfl (Or.inl rfl))
  (psm_one (psm_set (j := 1) S.nd rfl (Or.inl rfl) (pm_op og_mul (pm_v 1) (pm_int)))))
  (psm_one (psm_ret (pm_v 1)))))
theorem sc_law_numbers : FnScope ["_law_pen_here", "_law_width", "_law_far", "_law_these", "_law_turn"] (ps 30) (defScope s_law_numbers) := ⟨rfl, rfl, rfl, by decide +kernel, rfl, by decide +kernel, by decide +kernel⟩
set_option maxHeartbeats 16000000 in
theorem d_law_numbers (T : Txt K mg ad fd) {k : Nat} {c : Nat → Fn} (G : ∀ i, FG P w K mg base CX0 k (ad i) (fd i) (ps i) (spG ⟨K, ce⟩ (c i))) (hnd : base.NoDigits) {f : Addr} (cdv : Value) (A : Around) (out : List PySem.Env) (s : Shared) (H : Hp) (E : XK)
    (hr : Room k (A.deeper (envOfC "_law_numbers" (defScope s_law_numbers) s.heap.objs.size f cdv))) (hgd : A.guards = some []) :
    PSs (cxOf CX0 P w K mg base ["_law_pen_here", "_law_width", "_law_far", "_law_these", "_law_turn"] "_law_numbers" (defScope s_law_numbers) f cdv A out s H E) (defBody s_law_numbers) (tGS ⟨K, ce⟩ (fun _ => E) (B_law_numbers c)) := by
  have S := sc_law_numbers
  exact (psm_cons (psm_set (j := 2) S.nd rfl (Or.inl rfl) (pm_call (G 29) hr hgd rfl T.m_law_two T.k_law_two ⟨_, .nil, T.b_law_two⟩ (fun _ _ => rvs_nil) px0 (pam_cons (pm_v 1) pam_nil)))
  (psm_cons (psm_set (j := 3) S.nd rfl (Or.inr rfl) (pm_lst (pam_cons (pm_int) (pam_cons (pm_int) (pam_cons (pm_op og_sub (pm_v 2) (pm_int)) (pam_cons (pm_op og_div (pm_v 2) (pm_int)) (pam_cons (pm_call (G 21) hr hgd rfl T.m_law_draw T.k_law_draw ⟨_, .nil, T.b_law_draw⟩ (fun _ _ => rvs_nil) px0 (pam_cons (pm_v 0) (pam_cons (pm_v 2) pam_nil))) (pam_cons (pm_call (G 21) hr hgd rfl T.m_law_draw T.k_law_draw ⟨_, .nil, T.b_law_draw⟩ (fun _ _ => rvs_nil) px0 (pam_cons (pm_v 0) (pam_cons (pm_v 2) pam_nil))) (pam_cons (pm_op og_sub (pm_int) (pm_call (G 21) hr hgd rfl T.m_law_draw T.k_law_draw ⟨_, .nil, T.b_law_draw⟩ (fun _ _ => rvs_nil) px0 (pam_cons (pm_v 0) (pam_cons (pm_v 2) pam_nil)))) pam_nil)))))))))
  (psm_one (psm_ret (pm_ct cg_tuple rfl T.z_tuple (by decide +kernel) (pam_cons (pm_lc (own := [("_law_turn", 4)]) (p := (.nm 4)) rfl S.nd (pim_r1 rfl T.z_range (pm_int)) (blkOk_by (N := ["_law_pen_here", "_law_width", "_law_far", "_law_these", "_law_turn"]) (sc := defScope s_law_numbers) (own := [("_law_turn", 4)]) (by decide +kernel)) (by decide) (fun _ _ _ _ _ => (pg_name (i := 4) S.nd rfl (Or.inl rfl))) (fun _ _ _ _ _ => ptsm_nil) (fun _ _ _ _ _ => (pm_call (G 22) hr hgd rfl T.m_law_pick T.k_law_pick ⟨_, .nil, T.b_law_pick⟩ (fun _ _ => rvs_nil) px0 (pam_cons (pm_v 0) (pam_cons (pm_v 3) pam_nil))))) pam_nil))))))
theorem sc_law_tests : FnScope ["_law_statement", "_law_found", "_law_one"] (ps 31) (defScope s_law_tests) := ⟨rfl, rfl, rfl, by decide +kernel, rfl, by decide +kernel, by decide +kernel⟩
set_option maxHeartbeats 16000000 in
theorem d_law_tests (T : Txt K mg ad fd) {k : Nat} {c : Nat → Fn} (G : ∀ i, FG P w K mg base CX0 k (ad i) (fd i) (ps i) (spG ⟨K, ce⟩ (c i))) (hnd : base.NoDigits) {f : Addr} (cdv : Value) (A : Around) (out : List PySem.Env) (s : Shared) (H : Hp) (E : XK)
    (hr : Room k (A.deeper (envOfC "_law_tests" (defScope s_law_tests) s.heap.objs.size f cdv))) (hgd : A.guards = some []) :
    PSs (cxOf CX0 P w K mg base ["_law_statement", "_law_found", "_law_one"] "_law_tests" (defScope s_law_tests) f cdv A out s H E) (defBody s_law_tests) (tGS ⟨K, ce⟩ (fun _ => E) (B_law_tests c)) := by
  have S := sc_law_tests
  exact (psm_cons (psm_if (pt_cm og_in (pm_ix og_ix (pm_v 0) (pm_int) (fun _ _ => rfl)) (pm_tup (pam_cons (pm_str) (pam_cons (pm_str) (pam_cons (pm_str) pam_nil)))) rfl)
  (psm_cons (psm_set (j := 1) S.nd rfl (Or.inl rfl) (pm_lst pam_nil))
  (psm_cons (psm_for (p := (.nm 2)) (passes_of rfl) rfl (pim_e (pm_slice (pm_v 0) (pom_some (pm_int)) pom_none)) (pg_name (i := 2) S.nd rfl (Or.inl rfl))
  (psm_one (psm_set (j := 1) S.nd rfl (Or.inl rfl) (pm_op og_add (pm_v 1) (pm_call (G 31) hr hgd rfl T.m_law_tests T.k_law_tests ⟨_, .nil, T.b_law_tests⟩ (fun _ _ => rvs_nil) px0 (pam_cons (pm_v 2) pam_nil))))))
  (psm_one (psm_ret (pm_v 1)))))
  psm_nil)
  (psm_one (psm_ret (pm_lst (pam_cons (pm_v 0) pam_nil)))))
theorem sc_law_judge : FnScope ["_law_statement", "_law_left", "_law_parts", "_law_one"] (ps 32) (defScope s_law_judge) := ⟨rfl, rfl, rfl, by decide +kernel, rfl, by decide +kernel, by decide +kernel⟩
set_option maxHeartbeats 16000000 in
theorem d_law_judge (T : Txt K mg ad fd) {k : Nat} {c : Nat → Fn} (G : ∀ i, FG P w K mg base CX0 k (ad i) (fd i) (ps i) (spG ⟨K, ce⟩ (c i))) (hnd : base.NoDigits) {f : Addr} (cdv : Value) (A : Around) (out : List PySem.Env) (s : Shared) (H : Hp) (E : XK)
    (hr : Room k (A.deeper (envOfC "_law_judge" (defScope s_law_judge) s.heap.objs.size f cdv))) (hgd : A.guards = some []) :
    PSs (cxOf CX0 P w K mg base ["_law_statement", "_law_left", "_law_parts", "_law_one"] "_law_judge" (defScope s_law_judge) f cdv A out s H E) (defBody s_law_judge) (tGS ⟨K, ce⟩ (fun _ => E) (B_law_judge c)) := by
  have S := sc_law_judge
  exact (psm_cons (psm_if (pt_cm og_notIn (pm_ix og_ix (pm_v 0) (pm_int) (fun _ _ => rfl)) (pm_tup (pam_cons (pm_str) (pam_cons (pm_str) (pam_cons (pm_str) pam_nil)))) rfl)
  (psm_one (psm_ret (pm_ml PySem.F.slot_list_pop PySem.F.type_list_pop mg_pop0 (pm_v 1) (pam_cons (pm_int) pam_nil))))
  psm_nil)
  (psm_cons (psm_setLc (j := 2) (own := [("_law_one", 3)]) (p := (.nm 3)) rfl S.nd rfl rfl (sw_true rfl rfl rfl (by decide +kernel)) (pim_e (pm_slice (pm_v 0) (pom_some (pm_int)) pom_none)) (blkOk_by (N := ["_law_statement", "_law_left", "_law_parts", "_law_one"]) (sc := defScope s_law_judge) (own := [("_law_one", 3)]) (by decide +kernel)) (by decide) (fun _ _ _ _ _ => (pg_name (i := 3) S.nd rfl (Or.inl rfl))) (fun _ _ _ _ _ => ptsm_nil) (fun _ _ _ _ _ => (pm_call (G 32) hr hgd rfl T.m_law_judge T.k_law_judge ⟨_, .nil, T.b_law_judge⟩ (fun _ _ => rvs_nil) px0 (pam_cons (pm_v 3) (pam_cons (pm_v 1) pam_nil)))))
  (psm_cons (psm_if (pt_cm (og_eq hr.units) (pm_ix og_ix (pm_v 0) (pm_int) (fun _ _ => rfl)) (pm_str) (nomark _))
  (psm_one (psm_ret (pm_not (pm_ix og_ix (pm_v 2) (pm_int) (fun _ _ => rfl)))))
  psm_nil)
  (psm_one (psm_ret (pm_if (pt_cm (og_eq hr.units) (pm_ix og_ix (pm_v 0) (pm_int) (fun _ _ => rfl)) (pm_str) (nomark _)) ((pm_and (pm_ix og_ix (pm_v 2) (pm_int) (fun _ _ => rfl)) (pm_one (pm_ix og_ix (pm_v 2) (pm_int) (fun _ _ => rfl))))) ((pm_or (pm_ix og_ix (pm_v 2) (pm_int) (fun _ _ => rfl)) (pm_one (pm_ix og_ix (pm_v 2) (pm_int) (fun _ _ => rfl)))))))))))
theorem sc_law_signed : FnScope ["_law_number", "_law_width"] (ps 33) (defScope s_law_signed) := ⟨rfl, rfl, rfl, by decide +kernel, rfl, by decide +kernel, by decide +kernel⟩
set_option maxHeartbeats 16000000 in
theorem d_law_signed (T : Txt K mg ad fd) {k : Nat} {c : Nat → Fn} (G : ∀ i, FG P w K mg base CX0 k (ad i) (fd i) (ps i) (spG ⟨K, ce⟩ (c i))) (hnd : base.NoDigits) {f : Addr} (cdv : Value) (A : Around) (out : List PySem.Env) (s : Shared) (H : Hp) (E : XK)
    (hr : Room k (A.deeper (envOfC "_law_signed" (defScope s_law_signed) s.heap.objs.size f cdv))) (hgd : A.guards = some []) :
    PSs (cxOf CX0 P w K mg base ["_law_number", "_law_width"] "_law_signed" (defScope s_law_signed) f cdv A out s H E) (defBody s_law_signed) (tGS ⟨K, ce⟩ (fun _ => E) (B_law_signed c)) := by
  have S := sc_law_signed
  exact (psm_one (psm_ret (pm_if (pt_cm og_ge (pm_v 0) (pm_call (G 29) hr hgd rfl T.m_law_two T.k_law_two ⟨_, .nil, T.b_law_two⟩ (fun _ _ => rvs_nil) px0 (pam_cons (pm_op og_sub (pm_v 1) (pm_int)) pam_nil)) (nomark _)) (pm_op og_sub (pm_v 0) (pm_call (G 29) hr hgd rfl T.m_law_two T.k_law_two ⟨_, .nil, T.b_law_two⟩ (fun _ _ => rvs_nil) px0 (pam_cons (pm_v 1) pam_nil))) (pm_v 0))))
theorem sc_law_test_so : FnScope ["_law_test", "_law_numbers_here", "_law_width", "_law_far", "_law_one", "_law_other"] (ps 34) (defScope s_law_test_so) := ⟨rfl, rfl, rfl, by decide +kernel, rfl, by decide +kernel, by decide +kernel⟩
set_option maxHeartbeats 16000000 in
theorem d_law_test_so (T : Txt K mg ad fd) {k : Nat} {c : Nat → Fn} (G : ∀ i, FG P w K mg base CX0 k (ad i) (fd i) (ps i) (spG ⟨K, ce⟩ (c i))) (hnd : base.NoDigits) {f : Addr} (cdv : Value) (A : Around) (out : List PySem.Env) (s : Shared) (H : Hp) (E : XK)
    (hr : Room k (A.deeper (envOfC "_law_test_so" (defScope s_law_test_so) s.heap.objs.size f cdv))) (hgd : A.guards = some []) :
    PSs (cxOf CX0 P w K mg base ["_law_test", "_law_numbers_here", "_law_width", "_law_far", "_law_one", "_law_other"] "_law_test_so" (defScope s_law_test_so) f cdv A out s H E) (defBody s_law_test_so) (tGS ⟨K, ce⟩ (fun _ => E) (B_law_test_so c)) := by
  have S := sc_law_test_so
  exact (psm_cons (psm_set (j := 3) S.nd rfl (Or.inl rfl) (pm_call (G 29) hr hgd rfl T.m_law_two T.k_law_two ⟨_, .nil, T.b_law_two⟩ (fun _ _ => rvs_nil) px0 (pam_cons (pm_v 2) pam_nil)))
  (psm_cons (psm_par (j := 4) (k := 5) rfl S.nd rfl rfl (by decide) rfl rfl (pam_cons (pm_op og_mod (pm_call (G 28) hr hgd rfl T.m_law_worth T.k_law_worth ⟨_, .nil, T.b_law_worth⟩ (fun _ _ => rvs_nil) px0 (pam_cons (pm_ix og_ix (pm_v 0) (pm_int) (fun _ _ => rfl)) (pam_cons (pm_v 1) pam_nil))) (pm_v 3)) (pam_cons (pm_op og_mod (pm_call (G 28) hr hgd rfl T.m_law_worth T.k_law_worth ⟨_, .nil, T.b_law_worth⟩ (fun _ _ => rvs_nil) px0 (pam_cons (pm_ix og_ix (pm_v 0) (pm_int) (fun _ _ => rfl)) (pam_cons (pm_v 1) pam_nil))) (pm_v 3)) pam_nil)) (by rfl))
  (psm_cons (psm_if (pt_cm (og_eq hr.units) (pm_ix og_ix (pm_v 0) (pm_int) (fun _ _ => rfl)) (pm_str) (nomark _))
  (psm_one (psm_ret (pm_cmp (og_eq hr.units) (pm_v 4) (pm_v 5) (nomark _))))
  psm_nil)
  (psm_one (psm_ret (pm_if (pt_cm (og_eq hr.units) (pm_ix og_ix (pm_v 0) (pm_int) (fun _ _ => rfl)) (pm_str) (nomark _)) (pm_cmp og_lt (pm_v 4) (pm_v 5) (nomark _)) (pm_cmp og_lt (pm_call (G 33) hr hgd rfl T.m_law_signed T.k_law_signed ⟨_, .nil, T.b_law_signed⟩ (fun _ _ => rvs_nil) px0 (pam_cons (pm_v 4) (pam_cons (pm_v 2) pam_nil))) (pm_call (G 33) hr hgd rfl T.m_law_signed T.k_law_signed ⟨_, .nil, T.b_law_signed⟩ (fun _ _ => rvs_nil) px0 (pam_cons (pm_v 5) (pam_cons (pm_v 2) pam_nil))) (nomark _))))))))
theorem sc_law_so : FnScope ["_law_statement", "_law_numbers_here", "_law_width", "_law_one"] (ps 35) (defScope s_law_so) := ⟨rfl, rfl, rfl, by decide +kernel, rfl, by decide +kernel, by decide +kernel⟩
set_option maxHeartbeats 16000000 in
theorem d_law_so (T : Txt K mg ad fd) {k : Nat} {c : Nat → Fn} (G : ∀ i, FG P w K mg base CX0 k (ad i) (fd i) (ps i) (spG ⟨K, ce⟩ (c i))) (hnd : base.NoDigits) {f : Addr} (cdv : Value) (A : Around) (out : List PySem.Env) (s : Shared) (H : Hp) (E : XK)
    (hr : Room k (A.deeper (envOfC "_law_so" (defScope s_law_so) s.heap.objs.size f cdv))) (hgd : A.guards = some []) :
    PSs (cxOf CX0 P w K mg base ["_law_statement", "_law_numbers_here", "_law_width", "_law_one"] "_law_so" (defScope s_law_so) f cdv A out s H E) (defBody s_law_so) (tGS ⟨K, ce⟩ (fun _ => E) (B_law_so c)) := by
  have S := sc_law_so
  exact (psm_one (psm_ret (pm_call (G 32) hr hgd rfl T.m_law_judge T.k_law_judge ⟨_, .nil, T.b_law_judge⟩ (fun _ _ => rvs_nil) px0 (pam_cons (pm_v 0) (pam_cons (pm_lc (own := [("_law_one", 3)]) (p := (.nm 3)) rfl S.nd (pim_e (pm_call (G 31) hr hgd rfl T.m_law_tests T.k_law_tests ⟨_, .nil, T.b_law_tests⟩ (fun _ _ => rvs_nil) px0 (pam_cons (pm_v 0) pam_nil))) (blkOk_by (N := ["_law_statement", "_law_numbers_here", "_law_width", "_law_one"]) (sc := defScope s_law_so) (own := [("_law_one", 3)]) (by decide +kernel)) (by decide) (fun _ _ _ _ _ => (pg_name (i := 3) S.nd rfl (Or.inl rfl))) (fun _ _ _ _ _ => ptsm_nil) (fun _ _ _ _ _ => (pm_call (G 34) hr hgd rfl T.m_law_test_so T.k_law_test_so ⟨_, .nil, T.b_law_test_so⟩ (fun _ _ => rvs_nil) px0 (pam_cons (pm_v 3) (pam_cons (pm_v 1) (pam_cons (pm_v 2) pam_nil)))))) pam_nil)))))
theorem sc_law_plain : FnScope ["_law_pen_here", "_law_word"] (ps 36) (defScope s_law_plain) := ⟨rfl, rfl, rfl, by decide +kernel, rfl, by decide +kernel, by decide +kernel⟩
set_option maxHeartbeats 16000000 in
theorem d_law_plain (T : Txt K mg ad fd) {k : Nat} {c : Nat → Fn} (G : ∀ i, FG P w K mg base CX0 k (ad i) (fd i) (ps i) (spG ⟨K, ce⟩ (c i))) (hnd : base.NoDigits) {f : Addr} (cdv : Value) (A : Around) (out : List PySem.Env) (s : Shared) (H : Hp) (E : XK)
    (hr : Room k (A.deeper (envOfC "_law_plain" (defScope s_law_plain) s.heap.objs.size f cdv))) (hgd : A.guards = some []) :
    PSs (cxOf CX0 P w K mg base ["_law_pen_here", "_law_word"] "_law_plain" (defScope s_law_plain) f cdv A out s H E) (defBody s_law_plain) (tGS ⟨K, ce⟩ (fun _ => E) (B_law_plain c)) := by
  have S := sc_law_plain
  exact (psm_cons (psm_set (j := 1) S.nd rfl (Or.inl rfl) (pm_call (G 22) hr hgd rfl T.m_law_pick T.k_law_pick ⟨_, .nil, T.b_law_pick⟩ (fun _ _ => rvs_nil) px0 (pam_cons (pm_v 0) (pam_cons (pm_lst (pam_cons (pm_str) (pam_cons (pm_str) (pam_cons (pm_str) (pam_cons (pm_str) pam_nil))))) pam_nil))))
  (psm_one (psm_ret (pm_tup (pam_cons (pm_v 1) (pam_cons (pm_call (G 27) hr hgd rfl T.m_law_mild T.k_law_mild ⟨_, .nil, T.b_law_mild⟩ (fun _ _ => rvs_nil) px0 (pam_cons (pm_v 0) (pam_cons (pm_int) pam_nil))) (pam_cons (pm_call (G 27) hr hgd rfl T.m_law_mild T.k_law_mild ⟨_, .nil, T.b_law_mild⟩ (fun _ _ => rvs_nil) px0 (pam_cons (pm_v 0) (pam_cons (pm_call (G 21) hr hgd rfl T.m_law_draw T.k_law_draw ⟨_, .nil, T.b_law_draw⟩ (fun _ _ => rvs_nil) px0 (pam_cons (pm_v 0) (pam_cons (pm_int) pam_nil))) pam_nil))) pam_nil)))))))
theorem sc_law_odd_widths : FnScope ["_law_pen_here", "_law_x", "_law_number"] (ps 37) (defScope s_law_odd_widths) := ⟨rfl, rfl, rfl, by decide +kernel, rfl, by decide +kernel, by decide +kernel⟩
set_option maxHeartbeats 16000000 in
theorem d_law_odd_widths (T : Txt K mg ad fd) {k : Nat} {c : Nat → Fn} (G : ∀ i, FG P w K mg base CX0 k (ad i) (fd i) (ps i) (spG ⟨K, ce⟩ (c i))) (hnd : base.NoDigits) {f : Addr} (cdv : Value) (A : Around) (out : List PySem.Env) (s : Shared) (H : Hp) (E : XK)
    (hr : Room k (A.deeper (envOfC "_law_odd_widths" (defScope s_law_odd_widths) s.heap.objs.size f cdv))) (hgd : A.guards = some []) :
    PSs (cxOf CX0 P w K mg base ["_law_pen_here", "_law_x", "_law_number"] "_law_odd_widths" (defScope s_law_odd_widths) f cdv A out s H E) (defBody s_law_odd_widths) (tGS ⟨K, ce⟩ (fun _ => E) (B_law_odd_widths c)) := by
  have S := sc_law_odd_widths
  exact (psm_cons (psm_set (j := 1) S.nd rfl (Or.inl rfl) (pm_tup (pam_cons (pm_str) (pam_cons (pm_call (G 21) hr hgd rfl T.m_law_draw T.k_law_draw ⟨_, .nil, T.b_law_draw⟩ (fun _ _ => rvs_nil) px0 (pam_cons (pm_v 0) (pam_cons (pm_int) pam_nil))) pam_nil))))
  (psm_cons (psm_if (pt_cm (og_eq hr.units) (pm_call (G 21) hr hgd rfl T.m_law_draw T.k_law_draw ⟨_, .nil, T.b_law_draw⟩ (fun _ _ => rvs_nil) px0 (pam_cons (pm_v 0) (pam_cons (pm_int) pam_nil))) (pm_int) (nomark _))
  (psm_cons (psm_set (j := 2) S.nd rfl (Or.inl rfl) (pm_tup (pam_cons (pm_str) (pam_cons (pm_call (G 22) hr hgd rfl T.m_law_pick T.k_law_pick ⟨_, .nil, T.b_law_pick⟩ (fun _ _ => rvs_nil) px0 (pam_cons (pm_v 0) (pam_cons (pm_lst (pam_cons (pm_int) (pam_cons (pm_un og_neg (pm_int)) (pam_cons (pm_int) (pam_cons (pm_int) (pam_cons (pm_int) pam_nil)))))) pam_nil))) pam_nil))))
  (psm_one (psm_ret (pm_tup (pam_cons (pm_str) (pam_cons (pm_tup (pam_cons (pm_str) (pam_cons (pm_call (G 22) hr hgd rfl T.m_law_pick T.k_law_pick ⟨_, .nil, T.b_law_pick⟩ (fun _ _ => rvs_nil) px0 (pam_cons (pm_v 0) (pam_cons (pm_lst (pam_cons (pm_int) (pam_cons (pm_int) (pam_cons (pm_un og_neg (pm_int)) (pam_cons (pm_int) (pam_cons (pm_int) (pam_cons (pm_int) pam_nil))))))) pam_nil))) (pam_cons (pm_v 1) pam_nil)))) (pam_cons (pm_v 2) pam_nil)))))))
  psm_nil)
  (psm_one (psm_ret (pm_tup (pam_cons (pm_str) (pam_cons (pm_tup (pam_cons (pm_str) (pam_cons (pm_v 1) (pam_cons (pm_tup (pam_cons (pm_str) (pam_cons (pm_v 1) (pam_cons (pm_op og_add (pm_int) (pm_call (G 21) hr hgd rfl T.m_law_draw T.k_law_draw ⟨_, .nil, T.b_law_draw⟩ (fun _ _ => rvs_nil) px0 (pam_cons (pm_v 0) (pam_cons (pm_int) pam_nil)))) pam_nil)))) pam_nil)))) (pam_cons (pm_tup (pam_cons (pm_str) (pam_cons (pm_call (G 22) hr hgd rfl T.m_law_pick T.k_law_pick ⟨_, .nil, T.b_law_pick⟩ (fun _ _ => rvs_nil) px0 (pam_cons (pm_v 0) (pam_cons (pm_lst (pam_cons (pm_un og_neg (pm_int)) (pam_cons (pm_int) (pam_cons (pm_int) pam_nil)))) pam_nil))) pam_nil))) pam_nil))))))))
theorem sc_law_stated : FnScope ["_law_pen_here", "_law_words", "_law_word"] (ps 38) (defScope s_law_stated) := ⟨rfl, rfl, rfl, by decide +kernel, rfl, by decide +kernel, by decide +kernel⟩
set_option maxHeartbeats 16000000 in
theorem d_law_stated (T : Txt K mg ad fd) {k : Nat} {c : Nat → Fn} (G : ∀ i, FG P w K mg base CX0 k (ad i) (fd i) (ps i) (spG ⟨K, ce⟩ (c i))) (hnd : base.NoDigits) {f : Addr} (cdv : Value) (A : Around) (out : List PySem.Env) (s : Shared) (H : Hp) (E : XK)
    (hr : Room k (A.deeper (envOfC "_law_stated" (defScope s_law_stated) s.heap.objs.size f cdv))) (hgd : A.guards = some []) :
    PSs (cxOf CX0 P w K mg base ["_law_pen_here", "_law_words", "_law_word"] "_law_stated" (defScope s_law_stated) f cdv A out s H E) (defBody s_law_stated) (tGS ⟨K, ce⟩ (fun _ => E) (B_law_stated c)) := by
  have S := sc_law_stated
  exact (psm_cons (psm_if (PW.pt (pwm_or (pt_cm (og_eq hr.units) (pm_v 1) (pm_int) (nomark _)) (pwm_or1 (pt_cm (og_eq hr.units) (pm_call (G 21) hr hgd rfl T.m_law_draw T.k_law_draw ⟨_, .nil, T.b_law_draw⟩ (fun _ _ => rvs_nil) px0 (pam_cons (pm_v 0) (pam_cons (pm_int) pam_nil))) (pm_int) (nomark _)))))
  (psm_one (psm_ret (pm_if (pt_cm (og_eq hr.units) (pm_call (G 21) hr hgd rfl T.m_law_draw T.k_law_draw ⟨_, .nil, T.b_law_draw⟩ (fun _ _ => rvs_nil) px0 (pam_cons (pm_v 0) (pam_cons (pm_int) pam_nil))) (pm_int) (nomark _)) (pm_call (G 37) hr hgd rfl T.m_law_odd_widths T.k_law_odd_widths ⟨_, .nil, T.b_law_odd_widths⟩ (fun _ _ => rvs_nil) px0 (pam_cons (pm_v 0) pam_nil)) (pm_call (G 36) hr hgd rfl T.m_law_plain T.k_law_plain ⟨_, .nil, T.b_law_plain⟩ (fun _ _ => rvs_nil) px0 (pam_cons (pm_v 0) pam_nil)))))
  psm_nil)
  (psm_cons (psm_set (j := 2) S.nd rfl (Or.inl rfl) (pm_call (G 22) hr hgd rfl T.m_law_pick T.k_law_pick ⟨_, .nil, T.b_law_pick⟩ (fun _ _ => rvs_nil) px0 (pam_cons (pm_v 0) (pam_cons (pm_lst (pam_cons (pm_str) (pam_cons (pm_str) (pam_cons (pm_str) (pam_cons (pm_str) pam_nil))))) pam_nil))))
  (psm_cons (psm_if (pt_cm (og_eq hr.units) (pm_v 2) (pm_str) (nomark _))
  (psm_one (psm_ret (pm_tup (pam_cons (pm_v 2) (pam_cons (pm_call (G 38) hr hgd rfl T.m_law_stated T.k_law_stated ⟨_, .nil, T.b_law_stated⟩ (fun _ _ => rvs_nil) px0 (pam_cons (pm_v 0) (pam_cons (pm_op og_sub (pm_v 1) (pm_int)) pam_nil))) pam_nil)))))
  psm_nil)
  (psm_one (psm_ret (pm_tup (pam_cons (pm_v 2) (pam_cons (pm_call (G 38) hr hgd rfl T.m_law_stated T.k_law_stated ⟨_, .nil, T.b_law_stated⟩ (fun _ _ => rvs_nil) px0 (pam_cons (pm_v 0) (pam_cons (pm_op og_sub (pm_v 1) (pm_int)) pam_nil))) (pam_cons (pm_call (G 38) hr hgd rfl T.m_law_stated T.k_law_stated ⟨_, .nil, T.b_law_stated⟩ (fun _ _ => rvs_nil) px0 (pam_cons (pm_v 0) (pam_cons (pm_int) pam_nil))) pam_nil)))))))))
theorem sc_law : FnScope ["_law_script", "_law_k", "_law_pen_here", "_law_lap", "_law_word", "_law_statement", "_law_width", "_law_turn", "_law_numbers_here", "_law_kept", "_law_due", "_law_again"] (ps 39) (defScope s_law) := ⟨rfl, rfl, rfl, by decide +kernel, rfl, by decide +kernel, by decide +kernel⟩
set_option maxHeartbeats 16000000 in
theorem d_law (T : Txt K mg ad fd) {k : Nat} {c : Nat → Fn} (G : ∀ i, FG P w K mg base CX0 k (ad i) (fd i) (ps i) (spG ⟨K, ce⟩ (c i))) (hnd : base.NoDigits) {f : Addr} (cdv : Value) (A : Around) (out : List PySem.Env) (s : Shared) (H : Hp) (E : XK)
    (hr : Room k (A.deeper (envOfC "law" (defScope s_law) s.heap.objs.size f cdv))) (hgd : A.guards = some []) :
    PSs (cxOf CX0 P w K mg base ["_law_script", "_law_k", "_law_pen_here", "_law_lap", "_law_word", "_law_statement", "_law_width", "_law_turn", "_law_numbers_here", "_law_kept", "_law_due", "_law_again"] "law" (defScope s_law) f cdv A out s H E) (defBody s_law) (tGS ⟨K, ce⟩ (fun _ => E) (B_law c)) := by
  have S := sc_law
  exact (psm_cons (psm_for (p := (.nm 1)) (passes_of rfl) rfl (pim_r1 rfl T.z_range (pm_cb cg_max rfl T.z_max (by decide +kernel) (pam_cons (pm_int) (pam_cons (pm_cb cg_min rfl T.z_min (by decide +kernel) (pam_cons (pm_cb cg_len rfl T.z_len (by decide +kernel) (pam_cons (pm_v 0) pam_nil)) (pam_cons (pm_int) pam_nil))) pam_nil)))) (pg_name (i := 1) S.nd rfl (Or.inl rfl))
  (psm_cons (psm_set (j := 2) S.nd rfl (Or.inl rfl) (pm_call (G 20) hr hgd rfl T.m_law_pen T.k_law_pen ⟨_, .nil, T.b_law_pen⟩ (fun _ _ => rvs_nil) px0 (pam_cons (pm_call (G 19) hr hgd rfl T.m_law_cell T.k_law_cell ⟨_, .nil, T.b_law_cell⟩ (fun _ _ => rvs_nil) px0 (pam_cons (pm_v 0) (pam_cons (pm_v 1) pam_nil))) pam_nil)))
  (psm_one (psm_for (p := (.nm 3)) (passes_of rfl) rfl (pim_r1 rfl T.z_range (pm_int)) (pg_name (i := 3) S.nd rfl (Or.inl rfl))
  (psm_cons (psm_set (j := 4) S.nd rfl (Or.inl rfl) (pm_call (G 22) hr hgd rfl T.m_law_pick T.k_law_pick ⟨_, .nil, T.b_law_pick⟩ (fun _ _ => rvs_nil) px0 (pam_cons (pm_v 2) (pam_cons (pm_lst (pam_cons (pm_str) (pam_cons (pm_str) (pam_cons (pm_str) pam_nil)))) pam_nil))))
  (psm_cons (psm_set (j := 5) S.nd rfl (Or.inr rfl) (pm_call (G 22) hr hgd rfl T.m_law_pick T.k_law_pick ⟨_, .nil, T.b_law_pick⟩ (fun _ _ => rvs_nil) px0 (pam_cons (pm_v 2) (pam_cons (pm_lst (pam_cons (pm_tup (pam_cons (pm_v 4) (pam_cons (pm_call (G 26) hr hgd rfl T.m_law_any T.k_law_any ⟨_, .nil, T.b_law_any⟩ (fun _ _ => rvs_nil) px0 (pam_cons (pm_v 2) (pam_cons (pm_int) pam_nil))) (pam_cons (pm_call (G 26) hr hgd rfl T.m_law_any T.k_law_any ⟨_, .nil, T.b_law_any⟩ (fun _ _ => rvs_nil) px0 (pam_cons (pm_v 2) (pam_cons (pm_int) pam_nil))) pam_nil)))) (pam_cons (pm_call (G 38) hr hgd rfl T.m_law_stated T.k_law_stated ⟨_, .nil, T.b_law_stated⟩ (fun _ _ => rvs_nil) px0 (pam_cons (pm_v 2) (pam_cons (pm_int) pam_nil))) pam_nil))) pam_nil))))
  (psm_cons (psm_set (j := 6) S.nd rfl (Or.inr rfl) (pm_call (G 22) hr hgd rfl T.m_law_pick T.k_law_pick ⟨_, .nil, T.b_law_pick⟩ (fun _ _ => rvs_nil) px0 (pam_cons (pm_v 2) (pam_cons (pm_lst (pam_cons (pm_int) (pam_cons (pm_int) (pam_cons (pm_int) (pam_cons (pm_int) (pam_cons (pm_int) (pam_cons (pm_int) (pam_cons (pm_int) (pam_cons (pm_int) (pam_cons (pm_int) pam_nil)))))))))) pam_nil))))
  (psm_one (psm_for (p := (.nm 7)) (passes_of rfl) rfl (pim_r1 rfl T.z_range (pm_int)) (pg_name (i := 7) S.nd rfl (Or.inl rfl))
  (psm_cons (psm_set (j := 8) S.nd rfl (Or.inr rfl) (pm_call (G 30) hr hgd rfl T.m_law_numbers T.k_law_numbers ⟨_, .nil, T.b_law_numbers⟩ (fun _ _ => rvs_nil) px0 (pam_cons (pm_v 2) (pam_cons (pm_call (G 22) hr hgd rfl T.m_law_pick T.k_law_pick ⟨_, .nil, T.b_law_pick⟩ (fun _ _ => rvs_nil) px0 (pam_cons (pm_v 2) (pam_cons (pm_lst (pam_cons (pm_v 6) (pam_cons (pm_v 6) (pam_cons (pm_int) pam_nil)))) pam_nil))) pam_nil))))
  (psm_cons (psm_par (j := 9) (k := 10) rfl S.nd rfl rfl (by decide) rfl rfl (pam_cons (pm_cb (cg_repr hgd hr.units hnd) rfl T.z_repr (by decide +kernel) (pam_cons (pm_tup (pam_cons (pm_v 5) (pam_cons (pm_v 8) pam_nil))) pam_nil)) (pam_cons (pm_call (G 35) hr hgd rfl T.m_law_so T.k_law_so ⟨_, .nil, T.b_law_so⟩ (fun _ _ => rvs_nil) px0 (pam_cons (pm_v 5) (pam_cons (pm_v 8) (pam_cons (pm_v 6) pam_nil)))) pam_nil)) (by rfl))
  (psm_cons (psm_if (ptm_not (pt_tru (pm_call (G 23) hr hgd rfl T.m_law_same T.k_law_same ⟨_, .nil, T.b_law_same⟩ (fun _ _ => rvs_nil) px0 (pam_cons (pm_lc (own := [("_law_again", 11)]) (p := (.nm 11)) rfl S.nd (pim_r1 rfl T.z_range (pm_int)) (blkOk_by (N := ["_law_script", "_law_k", "_law_pen_here", "_law_lap", "_law_word", "_law_statement", "_law_width", "_law_turn", "_law_numbers_here", "_law_kept", "_law_due", "_law_again"]) (sc := defScope s_law) (own := [("_law_again", 11)]) (by decide +kernel)) (by decide) (fun _ _ _ _ _ => (pg_name (i := 11) S.nd rfl (Or.inl rfl))) (fun _ _ _ _ _ => ptsm_nil) (fun _ _ _ _ _ => (pm_call (G 18) hr hgd rfl T.m_is_true T.k_is_true ⟨_, .nil, T.b_is_true⟩ (fun _ _ => rvs_nil) px0 (pam_cons (pm_v 5) (pam_cons (pm_v 8) (pam_cons (pm_v 6) pam_nil)))))) (pam_cons (pm_lst (pam_cons (pm_v 10) (pam_cons (pm_v 10) pam_nil))) pam_nil)))))
  (psm_one (psm_ret (pm_bl)))
  psm_nil)
  (psm_one (psm_if (pt_cm (og_ne hr.units) (pm_cb (cg_repr hgd hr.units hnd) rfl T.z_repr (by decide +kernel) (pam_cons (pm_tup (pam_cons (pm_v 5) (pam_cons (pm_v 8) pam_nil))) pam_nil)) (pm_v 9) (nomark _))
  (psm_one (psm_ret (pm_bl)))
  psm_nil))))))))))))))
  (psm_one (psm_ret (pm_bl))))
theorem all_ok (T : Txt K mg ad fd) (hnd : base.NoDigits) : ∀ (k i : Nat), FG P w K mg base CX0 k (ad i) (fd i) (ps i) (spG ⟨K, ce⟩ (run k i))
  | 0, i => fg_none fun _ _ => rfl
  | k + 1, 0 => fg_fun T.f_is_integer sc_is_integer fun cdv A out s H E room gd => d_is_integer T (all_ok T hnd k) hnd cdv A out s H E room gd
  | k + 1, 1 => fg_fun T.f_is_between sc_is_between fun cdv A out s H E room gd => d_is_between T (all_ok T hnd k) hnd cdv A out s H E room gd
  | k + 1, 2 => fg_fun T.f_parts_of sc_parts_of fun cdv A out s H E room gd => d_parts_of T (all_ok T hnd k) hnd cdv A out s H E room gd
  | k + 1, 3 => fg_fun T.f_counted sc_counted fun cdv A out s H E room gd => d_counted T (all_ok T hnd k) hnd cdv A out s H E room gd
  | k + 1, 4 => fg_fun T.f_paired sc_paired fun cdv A out s H E room gd => d_paired T (all_ok T hnd k) hnd cdv A out s H E room gd
  | k + 1, 5 => fg_fun T.f_whole_of sc_whole_of fun cdv A out s H E room gd => d_whole_of T (all_ok T hnd k) hnd cdv A out s H E room gd
  | k + 1, 6 => fg_fun T.f_value_of sc_value_of fun cdv A out s H E room gd => d_value_of T (all_ok T hnd k) hnd cdv A out s H E room gd
  | k + 1, 7 => fg_fun T.f_need_values sc_need_values fun cdv A out s H E room gd => d_need_values T (all_ok T hnd k) hnd cdv A out s H E room gd
  | k + 1, 8 => fg_fun T.f_need_width sc_need_width fun cdv A out s H E room gd => d_need_width T (all_ok T hnd k) hnd cdv A out s H E room gd
  | k + 1, 9 => fg_fun T.f_operations_in sc_operations_in fun cdv A out s H E room gd => d_operations_in T (all_ok T hnd k) hnd cdv A out s H E room gd
  | k + 1, 10 => fg_fun T.f_is_joined sc_is_joined fun cdv A out s H E room gd => d_is_joined T (all_ok T hnd k) hnd cdv A out s H E room gd
  | k + 1, 11 => fg_fun T.f_is_statement sc_is_statement fun cdv A out s H E room gd => d_is_statement T (all_ok T hnd k) hnd cdv A out s H E room gd
  | k + 1, 12 => fg_fun T.f_need_statement sc_need_statement fun cdv A out s H E room gd => d_need_statement T (all_ok T hnd k) hnd cdv A out s H E room gd
  | k + 1, 13 => fg_fun T.f_plan_of sc_plan_of fun cdv A out s H E room gd => d_plan_of T (all_ok T hnd k) hnd cdv A out s H E room gd
  | k + 1, 14 => fg_fun T.f_judged sc_judged fun cdv A out s H E room gd => d_judged T (all_ok T hnd k) hnd cdv A out s H E room gd
  | k + 1, 15 => fg_fun T.f_signed sc_signed fun cdv A out s H E room gd => d_signed T (all_ok T hnd k) hnd cdv A out s H E room gd
  | k + 1, 16 => fg_fun T.f_is_test_true sc_is_test_true fun cdv A out s H E room gd => d_is_test_true T (all_ok T hnd k) hnd cdv A out s H E room gd
  | k + 1, 17 => fg_fun T.f_is_true_of sc_is_true_of fun cdv A out s H E room gd => d_is_true_of T (all_ok T hnd k) hnd cdv A out s H E room gd
  | k + 1, 18 => fg_fun T.f_is_true sc_is_true fun cdv A out s H E room gd => d_is_true T (all_ok T hnd k) hnd cdv A out s H E room gd
  | k + 1, 19 => fg_fun T.f_law_cell sc_law_cell fun cdv A out s H E room gd => d_law_cell T (all_ok T hnd k) hnd cdv A out s H E room gd
  | k + 1, 20 => fg_fun T.f_law_pen sc_law_pen fun cdv A out s H E room gd => d_law_pen T (all_ok T hnd k) hnd cdv A out s H E room gd
  | k + 1, 21 => fg_fun T.f_law_draw sc_law_draw fun cdv A out s H E room gd => d_law_draw T (all_ok T hnd k) hnd cdv A out s H E room gd
  | k + 1, 22 => fg_fun T.f_law_pick sc_law_pick fun cdv A out s H E room gd => d_law_pick T (all_ok T hnd k) hnd cdv A out s H E room gd
  | k + 1, 23 => fg_fun T.f_law_same sc_law_same fun cdv A out s H E room gd => d_law_same T (all_ok T hnd k) hnd cdv A out s H E room gd
  | k + 1, 24 => fg_fun T.f_law_leaf sc_law_leaf fun cdv A out s H E room gd => d_law_leaf T (all_ok T hnd k) hnd cdv A out s H E room gd
  | k + 1, 25 => fg_fun T.f_law_drawn sc_law_drawn fun cdv A out s H E room gd => d_law_drawn T (all_ok T hnd k) hnd cdv A out s H E room gd
  | k + 1, 26 => fg_fun T.f_law_any sc_law_any fun cdv A out s H E room gd => d_law_any T (all_ok T hnd k) hnd cdv A out s H E room gd
  | k + 1, 27 => fg_fun T.f_law_mild sc_law_mild fun cdv A out s H E room gd => d_law_mild T (all_ok T hnd k) hnd cdv A out s H E room gd
  | k + 1, 28 => fg_fun T.f_law_worth sc_law_worth fun cdv A out s H E room gd => d_law_worth T (all_ok T hnd k) hnd cdv A out s H E room gd
  | k + 1, 29 => fg_fun T.f_law_two sc_law_two fun cdv A out s H E room gd => d_law_two T (all_ok T hnd k) hnd cdv A out s H E room gd
  | k + 1, 30 => fg_fun T.f_law_numbers sc_law_numbers fun cdv A out s H E room gd => d_law_numbers T (all_ok T hnd k) hnd cdv A out s H E room gd
  | k + 1, 31 => fg_fun T.f_law_tests sc_law_tests fun cdv A out s H E room gd => d_law_tests T (all_ok T hnd k) hnd cdv A out s H E room gd
  | k + 1, 32 => fg_fun T.f_law_judge sc_law_judge fun cdv A out s H E room gd => d_law_judge T (all_ok T hnd k) hnd cdv A out s H E room gd
  | k + 1, 33 => fg_fun T.f_law_signed sc_law_signed fun cdv A out s H E room gd => d_law_signed T (all_ok T hnd k) hnd cdv A out s H E room gd
  | k + 1, 34 => fg_fun T.f_law_test_so sc_law_test_so fun cdv A out s H E room gd => d_law_test_so T (all_ok T hnd k) hnd cdv A out s H E room gd
  | k + 1, 35 => fg_fun T.f_law_so sc_law_so fun cdv A out s H E room gd => d_law_so T (all_ok T hnd k) hnd cdv A out s H E room gd
  | k + 1, 36 => fg_fun T.f_law_plain sc_law_plain fun cdv A out s H E room gd => d_law_plain T (all_ok T hnd k) hnd cdv A out s H E room gd
  | k + 1, 37 => fg_fun T.f_law_odd_widths sc_law_odd_widths fun cdv A out s H E room gd => d_law_odd_widths T (all_ok T hnd k) hnd cdv A out s H E room gd
  | k + 1, 38 => fg_fun T.f_law_stated sc_law_stated fun cdv A out s H E room gd => d_law_stated T (all_ok T hnd k) hnd cdv A out s H E room gd
  | k + 1, 39 => fg_fun T.f_law sc_law fun cdv A out s H E room gd => d_law T (all_ok T hnd k) hnd cdv A out s H E room gd
  | k + 1, _ + 40 => fg_none fun _ _ => rfl
theorem top_mk {l : PySem.W.OpenLaw} {w : World} {K : PySem.W.Frag} {h : Heap} {mg : Str → Option Value} {fa : Addr} (X : K.In h) (G : h.Ns mainGlobals mg) (hfa : mg "law" = some (.ref fa))
    {f0 : Addr} {od0 an0 : Option Addr} {sl0 : Array (Option Value)} {oc0 kV0 dc0 pm0 cd0 ct0 : Value}
    {f1 : Addr} {od1 an1 : Option Addr} {sl1 : Array (Option Value)} {oc1 kV1 dc1 pm1 cd1 ct1 : Value}
    {f2 : Addr} {od2 an2 : Option Addr} {sl2 : Array (Option Value)} {oc2 kV2 dc2 pm2 cd2 ct2 : Value}
    {f3 : Addr} {od3 an3 : Option Addr} {sl3 : Array (Option Value)} {oc3 kV3 dc3 pm3 cd3 ct3 : Value}
    {f4 : Addr} {od4 an4 : Option Addr} {sl4 : Array (Option Value)} {oc4 kV4 dc4 pm4 cd4 ct4 : Value}
    {f5 : Addr} {od5 an5 : Option Addr} {sl5 : Array (Option Value)} {oc5 kV5 dc5 pm5 cd5 ct5 : Value}
    {f6 : Addr} {od6 an6 : Option Addr} {sl6 : Array (Option Value)} {oc6 kV6 dc6 pm6 cd6 ct6 : Value}
    {f7 : Addr} {od7 an7 : Option Addr} {sl7 : Array (Option Value)} {oc7 kV7 dc7 pm7 cd7 ct7 : Value}
    {td7 : Addr} {ot7 : Obj} {it7 : List Value} {nt7 : Nat}
    {f8 : Addr} {od8 an8 : Option Addr} {sl8 : Array (Option Value)} {oc8 kV8 dc8 pm8 cd8 ct8 : Value}
    {td8 : Addr} {ot8 : Obj} {it8 : List Value} {nt8 : Nat}
    {f9 : Addr} {od9 an9 : Option Addr} {sl9 : Array (Option Value)} {oc9 kV9 dc9 pm9 cd9 ct9 : Value}
    {f10 : Addr} {od10 an10 : Option Addr} {sl10 : Array (Option Value)} {oc10 kV10 dc10 pm10 cd10 ct10 : Value}
    {f11 : Addr} {od11 an11 : Option Addr} {sl11 : Array (Option Value)} {oc11 kV11 dc11 pm11 cd11 ct11 : Value}
    {f12 : Addr} {od12 an12 : Option Addr} {sl12 : Array (Option Value)} {oc12 kV12 dc12 pm12 cd12 ct12 : Value}
    {f13 : Addr} {od13 an13 : Option Addr} {sl13 : Array (Option Value)} {oc13 kV13 dc13 pm13 cd13 ct13 : Value}
    {f14 : Addr} {od14 an14 : Option Addr} {sl14 : Array (Option Value)} {oc14 kV14 dc14 pm14 cd14 ct14 : Value}
    {f15 : Addr} {od15 an15 : Option Addr} {sl15 : Array (Option Value)} {oc15 kV15 dc15 pm15 cd15 ct15 : Value}
    {f16 : Addr} {od16 an16 : Option Addr} {sl16 : Array (Option Value)} {oc16 kV16 dc16 pm16 cd16 ct16 : Value}
    {f17 : Addr} {od17 an17 : Option Addr} {sl17 : Array (Option Value)} {oc17 kV17 dc17 pm17 cd17 ct17 : Value}
    {f18 : Addr} {od18 an18 : Option Addr} {sl18 : Array (Option Value)} {oc18 kV18 dc18 pm18 cd18 ct18 : Value}
    {f19 : Addr} {od19 an19 : Option Addr} {sl19 : Array (Option Value)} {oc19 kV19 dc19 pm19 cd19 ct19 : Value}
    {f20 : Addr} {od20 an20 : Option Addr} {sl20 : Array (Option Value)} {oc20 kV20 dc20 pm20 cd20 ct20 : Value}
    {f21 : Addr} {od21 an21 : Option Addr} {sl21 : Array (Option Value)} {oc21 kV21 dc21 pm21 cd21 ct21 : Value}
    {f22 : Addr} {od22 an22 : Option Addr} {sl22 : Array (Option Value)} {oc22 kV22 dc22 pm22 cd22 ct22 : Value}
    {f23 : Addr} {od23 an23 : Option Addr} {sl23 : Array (Option Value)} {oc23 kV23 dc23 pm23 cd23 ct23 : Value}
    {f24 : Addr} {od24 an24 : Option Addr} {sl24 : Array (Option Value)} {oc24 kV24 dc24 pm24 cd24 ct24 : Value}
    {f25 : Addr} {od25 an25 : Option Addr} {sl25 : Array (Option Value)} {oc25 kV25 dc25 pm25 cd25 ct25 : Value}
    {f26 : Addr} {od26 an26 : Option Addr} {sl26 : Array (Option Value)} {oc26 kV26 dc26 pm26 cd26 ct26 : Value}
    {f27 : Addr} {od27 an27 : Option Addr} {sl27 : Array (Option Value)} {oc27 kV27 dc27 pm27 cd27 ct27 : Value}
    {f28 : Addr} {od28 an28 : Option Addr} {sl28 : Array (Option Value)} {oc28 kV28 dc28 pm28 cd28 ct28 : Value}
    {f29 : Addr} {od29 an29 : Option Addr} {sl29 : Array (Option Value)} {oc29 kV29 dc29 pm29 cd29 ct29 : Value}
    {f30 : Addr} {od30 an30 : Option Addr} {sl30 : Array (Option Value)} {oc30 kV30 dc30 pm30 cd30 ct30 : Value}
    {f31 : Addr} {od31 an31 : Option Addr} {sl31 : Array (Option Value)} {oc31 kV31 dc31 pm31 cd31 ct31 : Value}
    {f32 : Addr} {od32 an32 : Option Addr} {sl32 : Array (Option Value)} {oc32 kV32 dc32 pm32 cd32 ct32 : Value}
    {f33 : Addr} {od33 an33 : Option Addr} {sl33 : Array (Option Value)} {oc33 kV33 dc33 pm33 cd33 ct33 : Value}
    {f34 : Addr} {od34 an34 : Option Addr} {sl34 : Array (Option Value)} {oc34 kV34 dc34 pm34 cd34 ct34 : Value}
    {f35 : Addr} {od35 an35 : Option Addr} {sl35 : Array (Option Value)} {oc35 kV35 dc35 pm35 cd35 ct35 : Value}
    {f36 : Addr} {od36 an36 : Option Addr} {sl36 : Array (Option Value)} {oc36 kV36 dc36 pm36 cd36 ct36 : Value}
    {f37 : Addr} {od37 an37 : Option Addr} {sl37 : Array (Option Value)} {oc37 kV37 dc37 pm37 cd37 ct37 : Value}
    {f38 : Addr} {od38 an38 : Option Addr} {sl38 : Array (Option Value)} {oc38 kV38 dc38 pm38 cd38 ct38 : Value}
    {f39 : Addr} {od39 an39 : Option Addr} {sl39 : Array (Option Value)} {oc39 kV39 dc39 pm39 cd39 ct39 : Value}
    {cu_BOTH : Value}
    {cu_EITHER : Value}
    {cu_GREATEST_NUMBER : Value}
    {ca_LEAVES : Addr} {co_LEAVES : Obj} {ci_LEAVES : List Value} {cn_LEAVES : Nat}
    {cu_MOST_IN_ALL : Value}
    {cu_MOST_OPERATIONS : Value}
    {cu_MOST_SHIFT : Value}
    {cu_MOST_TESTS : Value}
    {cu_MOST_TIMES : Value}
    {cu_MOST_WORDS : Value}
    {cu_NEITHER : Value}
    {ca_PAIRED : Addr} {co_PAIRED : Obj} {ci_PAIRED : List Value} {cn_PAIRED : Nat}
    {ca_TESTS : Addr} {co_TESTS : Obj} {ci_TESTS : List Value} {cn_TESTS : Nat}
    {cu_VARIABLES : Value}
    (a0 : PySem.W.nsIn K mainGlobals "is_integer" = some (some (.ref f0)))
    (l0 : K.lookup f0 = some ⟨oc0, od0, .func (PySem.W.fnOf "is_integer" "is_integer" (defArgs s_is_integer) (defBody s_is_integer) (defScope s_is_integer) .none kV0 dc0 pm0 an0 cd0 ct0), sl0⟩)
    (c0 : PySem.W.codeIn K cd0 "is_integer" = true) (k0 : PySem.W.keepIn K (.ref f0) = true)
    (a1 : PySem.W.nsIn K mainGlobals "is_between" = some (some (.ref f1)))
    (l1 : K.lookup f1 = some ⟨oc1, od1, .func (PySem.W.fnOf "is_between" "is_between" (defArgs s_is_between) (defBody s_is_between) (defScope s_is_between) .none kV1 dc1 pm1 an1 cd1 ct1), sl1⟩)
    (c1 : PySem.W.codeIn K cd1 "is_between" = true) (k1 : PySem.W.keepIn K (.ref f1) = true)
    (a2 : PySem.W.nsIn K mainGlobals "parts_of" = some (some (.ref f2)))
    (l2 : K.lookup f2 = some ⟨oc2, od2, .func (PySem.W.fnOf "parts_of" "parts_of" (defArgs s_parts_of) (defBody s_parts_of) (defScope s_parts_of) .none kV2 dc2 pm2 an2 cd2 ct2), sl2⟩)
    (c2 : PySem.W.codeIn K cd2 "parts_of" = true) (k2 : PySem.W.keepIn K (.ref f2) = true)
    (a3 : PySem.W.nsIn K mainGlobals "counted" = some (some (.ref f3)))
    (l3 : K.lookup f3 = some ⟨oc3, od3, .func (PySem.W.fnOf "counted" "counted" (defArgs s_counted) (defBody s_counted) (defScope s_counted) .none kV3 dc3 pm3 an3 cd3 ct3), sl3⟩)
    (c3 : PySem.W.codeIn K cd3 "counted" = true) (k3 : PySem.W.keepIn K (.ref f3) = true)
    (a4 : PySem.W.nsIn K mainGlobals "paired" = some (some (.ref f4)))
    (l4 : K.lookup f4 = some ⟨oc4, od4, .func (PySem.W.fnOf "paired" "paired" (defArgs s_paired) (defBody s_paired) (defScope s_paired) .none kV4 dc4 pm4 an4 cd4 ct4), sl4⟩)
    (c4 : PySem.W.codeIn K cd4 "paired" = true) (k4 : PySem.W.keepIn K (.ref f4) = true)
    (a5 : PySem.W.nsIn K mainGlobals "whole_of" = some (some (.ref f5)))
    (l5 : K.lookup f5 = some ⟨oc5, od5, .func (PySem.W.fnOf "whole_of" "whole_of" (defArgs s_whole_of) (defBody s_whole_of) (defScope s_whole_of) .none kV5 dc5 pm5 an5 cd5 ct5), sl5⟩)
    (c5 : PySem.W.codeIn K cd5 "whole_of" = true) (k5 : PySem.W.keepIn K (.ref f5) = true)
    (a6 : PySem.W.nsIn K mainGlobals "value_of" = some (some (.ref f6)))
    (l6 : K.lookup f6 = some ⟨oc6, od6, .func (PySem.W.fnOf "value_of" "value_of" (defArgs s_value_of) (defBody s_value_of) (defScope s_value_of) .none kV6 dc6 pm6 an6 cd6 ct6), sl6⟩)
    (c6 : PySem.W.codeIn K cd6 "value_of" = true) (k6 : PySem.W.keepIn K (.ref f6) = true)
    (a7 : PySem.W.nsIn K mainGlobals "need_values" = some (some (.ref f7)))
    (l7 : K.lookup f7 = some ⟨oc7, od7, .func (PySem.W.fnOf "need_values" "need_values" (defArgs s_need_values) (defBody s_need_values) (defScope s_need_values) (.ref td7) kV7 dc7 pm7 an7 cd7 ct7), sl7⟩)
    (c7 : PySem.W.codeIn K cd7 "need_values" = true) (k7 : PySem.W.keepIn K (.ref f7) = true)
    (t7 : K.lookup td7 = some ot7) (u7 : ot7.data = .seq it7.toArray nt7) (v7 : Vals [.int 3] it7)
    (a8 : PySem.W.nsIn K mainGlobals "need_width" = some (some (.ref f8)))
    (l8 : K.lookup f8 = some ⟨oc8, od8, .func (PySem.W.fnOf "need_width" "need_width" (defArgs s_need_width) (defBody s_need_width) (defScope s_need_width) (.ref td8) kV8 dc8 pm8 an8 cd8 ct8), sl8⟩)
    (c8 : PySem.W.codeIn K cd8 "need_width" = true) (k8 : PySem.W.keepIn K (.ref f8) = true)
    (t8 : K.lookup td8 = some ot8) (u8 : ot8.data = .seq it8.toArray nt8) (v8 : Vals [.int 2000] it8)
    (a9 : PySem.W.nsIn K mainGlobals "operations_in" = some (some (.ref f9)))
    (l9 : K.lookup f9 = some ⟨oc9, od9, .func (PySem.W.fnOf "operations_in" "operations_in" (defArgs s_operations_in) (defBody s_operations_in) (defScope s_operations_in) .none kV9 dc9 pm9 an9 cd9 ct9), sl9⟩)
    (c9 : PySem.W.codeIn K cd9 "operations_in" = true) (k9 : PySem.W.keepIn K (.ref f9) = true)
    (a10 : PySem.W.nsIn K mainGlobals "is_joined" = some (some (.ref f10)))
    (l10 : K.lookup f10 = some ⟨oc10, od10, .func (PySem.W.fnOf "is_joined" "is_joined" (defArgs s_is_joined) (defBody s_is_joined) (defScope s_is_joined) .none kV10 dc10 pm10 an10 cd10 ct10), sl10⟩)
    (c10 : PySem.W.codeIn K cd10 "is_joined" = true) (k10 : PySem.W.keepIn K (.ref f10) = true)
    (a11 : PySem.W.nsIn K mainGlobals "is_statement" = some (some (.ref f11)))
    (l11 : K.lookup f11 = some ⟨oc11, od11, .func (PySem.W.fnOf "is_statement" "is_statement" (defArgs s_is_statement) (defBody s_is_statement) (defScope s_is_statement) .none kV11 dc11 pm11 an11 cd11 ct11), sl11⟩)
    (c11 : PySem.W.codeIn K cd11 "is_statement" = true) (k11 : PySem.W.keepIn K (.ref f11) = true)
    (a12 : PySem.W.nsIn K mainGlobals "need_statement" = some (some (.ref f12)))
    (l12 : K.lookup f12 = some ⟨oc12, od12, .func (PySem.W.fnOf "need_statement" "need_statement" (defArgs s_need_statement) (defBody s_need_statement) (defScope s_need_statement) .none kV12 dc12 pm12 an12 cd12 ct12), sl12⟩)
    (c12 : PySem.W.codeIn K cd12 "need_statement" = true) (k12 : PySem.W.keepIn K (.ref f12) = true)
    (a13 : PySem.W.nsIn K mainGlobals "plan_of" = some (some (.ref f13)))
    (l13 : K.lookup f13 = some ⟨oc13, od13, .func (PySem.W.fnOf "plan_of" "plan_of" (defArgs s_plan_of) (defBody s_plan_of) (defScope s_plan_of) .none kV13 dc13 pm13 an13 cd13 ct13), sl13⟩)
    (c13 : PySem.W.codeIn K cd13 "plan_of" = true) (k13 : PySem.W.keepIn K (.ref f13) = true)
    (a14 : PySem.W.nsIn K mainGlobals "judged" = some (some (.ref f14)))
    (l14 : K.lookup f14 = some ⟨oc14, od14, .func (PySem.W.fnOf "judged" "judged" (defArgs s_judged) (defBody s_judged) (defScope s_judged) .none kV14 dc14 pm14 an14 cd14 ct14), sl14⟩)
    (c14 : PySem.W.codeIn K cd14 "judged" = true) (k14 : PySem.W.keepIn K (.ref f14) = true)
    (a15 : PySem.W.nsIn K mainGlobals "signed" = some (some (.ref f15)))
    (l15 : K.lookup f15 = some ⟨oc15, od15, .func (PySem.W.fnOf "signed" "signed" (defArgs s_signed) (defBody s_signed) (defScope s_signed) .none kV15 dc15 pm15 an15 cd15 ct15), sl15⟩)
    (c15 : PySem.W.codeIn K cd15 "signed" = true) (k15 : PySem.W.keepIn K (.ref f15) = true)
    (a16 : PySem.W.nsIn K mainGlobals "is_test_true" = some (some (.ref f16)))
    (l16 : K.lookup f16 = some ⟨oc16, od16, .func (PySem.W.fnOf "is_test_true" "is_test_true" (defArgs s_is_test_true) (defBody s_is_test_true) (defScope s_is_test_true) .none kV16 dc16 pm16 an16 cd16 ct16), sl16⟩)
    (c16 : PySem.W.codeIn K cd16 "is_test_true" = true) (k16 : PySem.W.keepIn K (.ref f16) = true)
    (a17 : PySem.W.nsIn K mainGlobals "is_true_of" = some (some (.ref f17)))
    (l17 : K.lookup f17 = some ⟨oc17, od17, .func (PySem.W.fnOf "is_true_of" "is_true_of" (defArgs s_is_true_of) (defBody s_is_true_of) (defScope s_is_true_of) .none kV17 dc17 pm17 an17 cd17 ct17), sl17⟩)
    (c17 : PySem.W.codeIn K cd17 "is_true_of" = true) (k17 : PySem.W.keepIn K (.ref f17) = true)
    (a18 : PySem.W.nsIn K mainGlobals "is_true" = some (some (.ref f18)))
    (l18 : K.lookup f18 = some ⟨oc18, od18, .func (PySem.W.fnOf "is_true" "is_true" (defArgs s_is_true) (defBody s_is_true) (defScope s_is_true) .none kV18 dc18 pm18 an18 cd18 ct18), sl18⟩)
    (c18 : PySem.W.codeIn K cd18 "is_true" = true) (k18 : PySem.W.keepIn K (.ref f18) = true)
    (a19 : PySem.W.nsIn K mainGlobals "_law_cell" = some (some (.ref f19)))
    (l19 : K.lookup f19 = some ⟨oc19, od19, .func (PySem.W.fnOf "_law_cell" "_law_cell" (defArgs s_law_cell) (defBody s_law_cell) (defScope s_law_cell) .none kV19 dc19 pm19 an19 cd19 ct19), sl19⟩)
    (c19 : PySem.W.codeIn K cd19 "_law_cell" = true) (k19 : PySem.W.keepIn K (.ref f19) = true)
    (a20 : PySem.W.nsIn K mainGlobals "_law_pen" = some (some (.ref f20)))
    (l20 : K.lookup f20 = some ⟨oc20, od20, .func (PySem.W.fnOf "_law_pen" "_law_pen" (defArgs s_law_pen) (defBody s_law_pen) (defScope s_law_pen) .none kV20 dc20 pm20 an20 cd20 ct20), sl20⟩)
    (c20 : PySem.W.codeIn K cd20 "_law_pen" = true) (k20 : PySem.W.keepIn K (.ref f20) = true)
    (a21 : PySem.W.nsIn K mainGlobals "_law_draw" = some (some (.ref f21)))
    (l21 : K.lookup f21 = some ⟨oc21, od21, .func (PySem.W.fnOf "_law_draw" "_law_draw" (defArgs s_law_draw) (defBody s_law_draw) (defScope s_law_draw) .none kV21 dc21 pm21 an21 cd21 ct21), sl21⟩)
    (c21 : PySem.W.codeIn K cd21 "_law_draw" = true) (k21 : PySem.W.keepIn K (.ref f21) = true)
    (a22 : PySem.W.nsIn K mainGlobals "_law_pick" = some (some (.ref f22)))
    (l22 : K.lookup f22 = some ⟨oc22, od22, .func (PySem.W.fnOf "_law_pick" "_law_pick" (defArgs s_law_pick) (defBody s_law_pick) (defScope s_law_pick) .none kV22 dc22 pm22 an22 cd22 ct22), sl22⟩)
    (c22 : PySem.W.codeIn K cd22 "_law_pick" = true) (k22 : PySem.W.keepIn K (.ref f22) = true)
    (a23 : PySem.W.nsIn K mainGlobals "_law_same" = some (some (.ref f23)))
    (l23 : K.lookup f23 = some ⟨oc23, od23, .func (PySem.W.fnOf "_law_same" "_law_same" (defArgs s_law_same) (defBody s_law_same) (defScope s_law_same) .none kV23 dc23 pm23 an23 cd23 ct23), sl23⟩)
    (c23 : PySem.W.codeIn K cd23 "_law_same" = true) (k23 : PySem.W.keepIn K (.ref f23) = true)
    (a24 : PySem.W.nsIn K mainGlobals "_law_leaf" = some (some (.ref f24)))
    (l24 : K.lookup f24 = some ⟨oc24, od24, .func (PySem.W.fnOf "_law_leaf" "_law_leaf" (defArgs s_law_leaf) (defBody s_law_leaf) (defScope s_law_leaf) .none kV24 dc24 pm24 an24 cd24 ct24), sl24⟩)
    (c24 : PySem.W.codeIn K cd24 "_law_leaf" = true) (k24 : PySem.W.keepIn K (.ref f24) = true)
    (a25 : PySem.W.nsIn K mainGlobals "_law_drawn" = some (some (.ref f25)))
    (l25 : K.lookup f25 = some ⟨oc25, od25, .func (PySem.W.fnOf "_law_drawn" "_law_drawn" (defArgs s_law_drawn) (defBody s_law_drawn) (defScope s_law_drawn) .none kV25 dc25 pm25 an25 cd25 ct25), sl25⟩)
    (c25 : PySem.W.codeIn K cd25 "_law_drawn" = true) (k25 : PySem.W.keepIn K (.ref f25) = true)
    (a26 : PySem.W.nsIn K mainGlobals "_law_any" = some (some (.ref f26)))
    (l26 : K.lookup f26 = some ⟨oc26, od26, .func (PySem.W.fnOf "_law_any" "_law_any" (defArgs s_law_any) (defBody s_law_any) (defScope s_law_any) .none kV26 dc26 pm26 an26 cd26 ct26), sl26⟩)
    (c26 : PySem.W.codeIn K cd26 "_law_any" = true) (k26 : PySem.W.keepIn K (.ref f26) = true)
    (a27 : PySem.W.nsIn K mainGlobals "_law_mild" = some (some (.ref f27)))
    (l27 : K.lookup f27 = some ⟨oc27, od27, .func (PySem.W.fnOf "_law_mild" "_law_mild" (defArgs s_law_mild) (defBody s_law_mild) (defScope s_law_mild) .none kV27 dc27 pm27 an27 cd27 ct27), sl27⟩)
    (c27 : PySem.W.codeIn K cd27 "_law_mild" = true) (k27 : PySem.W.keepIn K (.ref f27) = true)
    (a28 : PySem.W.nsIn K mainGlobals "_law_worth" = some (some (.ref f28)))
    (l28 : K.lookup f28 = some ⟨oc28, od28, .func (PySem.W.fnOf "_law_worth" "_law_worth" (defArgs s_law_worth) (defBody s_law_worth) (defScope s_law_worth) .none kV28 dc28 pm28 an28 cd28 ct28), sl28⟩)
    (c28 : PySem.W.codeIn K cd28 "_law_worth" = true) (k28 : PySem.W.keepIn K (.ref f28) = true)
    (a29 : PySem.W.nsIn K mainGlobals "_law_two" = some (some (.ref f29)))
    (l29 : K.lookup f29 = some ⟨oc29, od29, .func (PySem.W.fnOf "_law_two" "_law_two" (defArgs s_law_two) (defBody s_law_two) (defScope s_law_two) .none kV29 dc29 pm29 an29 cd29 ct29), sl29⟩)
    (c29 : PySem.W.codeIn K cd29 "_law_two" = true) (k29 : PySem.W.keepIn K (.ref f29) = true)
    (a30 : PySem.W.nsIn K mainGlobals "_law_numbers" = some (some (.ref f30)))
    (l30 : K.lookup f30 = some ⟨oc30, od30, .func (PySem.W.fnOf "_law_numbers" "_law_numbers" (defArgs s_law_numbers) (defBody s_law_numbers) (defScope s_law_numbers) .none kV30 dc30 pm30 an30 cd30 ct30), sl30⟩)
    (c30 : PySem.W.codeIn K cd30 "_law_numbers" = true) (k30 : PySem.W.keepIn K (.ref f30) = true)
    (a31 : PySem.W.nsIn K mainGlobals "_law_tests" = some (some (.ref f31)))
    (l31 : K.lookup f31 = some ⟨oc31, od31, .func (PySem.W.fnOf "_law_tests" "_law_tests" (defArgs s_law_tests) (defBody s_law_tests) (defScope s_law_tests) .none kV31 dc31 pm31 an31 cd31 ct31), sl31⟩)
    (c31 : PySem.W.codeIn K cd31 "_law_tests" = true) (k31 : PySem.W.keepIn K (.ref f31) = true)
    (a32 : PySem.W.nsIn K mainGlobals "_law_judge" = some (some (.ref f32)))
    (l32 : K.lookup f32 = some ⟨oc32, od32, .func (PySem.W.fnOf "_law_judge" "_law_judge" (defArgs s_law_judge) (defBody s_law_judge) (defScope s_law_judge) .none kV32 dc32 pm32 an32 cd32 ct32), sl32⟩)
    (c32 : PySem.W.codeIn K cd32 "_law_judge" = true) (k32 : PySem.W.keepIn K (.ref f32) = true)
    (a33 : PySem.W.nsIn K mainGlobals "_law_signed" = some (some (.ref f33)))
    (l33 : K.lookup f33 = some ⟨oc33, od33, .func (PySem.W.fnOf "_law_signed" "_law_signed" (defArgs s_law_signed) (defBody s_law_signed) (defScope s_law_signed) .none kV33 dc33 pm33 an33 cd33 ct33), sl33⟩)
    (c33 : PySem.W.codeIn K cd33 "_law_signed" = true) (k33 : PySem.W.keepIn K (.ref f33) = true)
    (a34 : PySem.W.nsIn K mainGlobals "_law_test_so" = some (some (.ref f34)))
    (l34 : K.lookup f34 = some ⟨oc34, od34, .func (PySem.W.fnOf "_law_test_so" "_law_test_so" (defArgs s_law_test_so) (defBody s_law_test_so) (defScope s_law_test_so) .none kV34 dc34 pm34 an34 cd34 ct34), sl34⟩)
    (c34 : PySem.W.codeIn K cd34 "_law_test_so" = true) (k34 : PySem.W.keepIn K (.ref f34) = true)
    (a35 : PySem.W.nsIn K mainGlobals "_law_so" = some (some (.ref f35)))
    (l35 : K.lookup f35 = some ⟨oc35, od35, .func (PySem.W.fnOf "_law_so" "_law_so" (defArgs s_law_so) (defBody s_law_so) (defScope s_law_so) .none kV35 dc35 pm35 an35 cd35 ct35), sl35⟩)
    (c35 : PySem.W.codeIn K cd35 "_law_so" = true) (k35 : PySem.W.keepIn K (.ref f35) = true)
    (a36 : PySem.W.nsIn K mainGlobals "_law_plain" = some (some (.ref f36)))
    (l36 : K.lookup f36 = some ⟨oc36, od36, .func (PySem.W.fnOf "_law_plain" "_law_plain" (defArgs s_law_plain) (defBody s_law_plain) (defScope s_law_plain) .none kV36 dc36 pm36 an36 cd36 ct36), sl36⟩)
    (c36 : PySem.W.codeIn K cd36 "_law_plain" = true) (k36 : PySem.W.keepIn K (.ref f36) = true)
    (a37 : PySem.W.nsIn K mainGlobals "_law_odd_widths" = some (some (.ref f37)))
    (l37 : K.lookup f37 = some ⟨oc37, od37, .func (PySem.W.fnOf "_law_odd_widths" "_law_odd_widths" (defArgs s_law_odd_widths) (defBody s_law_odd_widths) (defScope s_law_odd_widths) .none kV37 dc37 pm37 an37 cd37 ct37), sl37⟩)
    (c37 : PySem.W.codeIn K cd37 "_law_odd_widths" = true) (k37 : PySem.W.keepIn K (.ref f37) = true)
    (a38 : PySem.W.nsIn K mainGlobals "_law_stated" = some (some (.ref f38)))
    (l38 : K.lookup f38 = some ⟨oc38, od38, .func (PySem.W.fnOf "_law_stated" "_law_stated" (defArgs s_law_stated) (defBody s_law_stated) (defScope s_law_stated) .none kV38 dc38 pm38 an38 cd38 ct38), sl38⟩)
    (c38 : PySem.W.codeIn K cd38 "_law_stated" = true) (k38 : PySem.W.keepIn K (.ref f38) = true)
    (a39 : PySem.W.nsIn K mainGlobals "law" = some (some (.ref f39)))
    (l39 : K.lookup f39 = some ⟨oc39, od39, .func (PySem.W.fnOf "law" "law" (defArgs s_law) (defBody s_law) (defScope s_law) .none kV39 dc39 pm39 an39 cd39 ct39), sl39⟩)
    (c39 : PySem.W.codeIn K cd39 "law" = true) (k39 : PySem.W.keepIn K (.ref f39) = true)
    (g_BOTH : PySem.W.nsIn K mainGlobals "BOTH" = some (some cu_BOTH)) (r_BOTH : RelV (.str "both") cu_BOTH)
    (g_EITHER : PySem.W.nsIn K mainGlobals "EITHER" = some (some cu_EITHER)) (r_EITHER : RelV (.str "either") cu_EITHER)
    (g_GREATEST_NUMBER : PySem.W.nsIn K mainGlobals "GREATEST_NUMBER" = some (some cu_GREATEST_NUMBER)) (r_GREATEST_NUMBER : RelV (.int 1000) cu_GREATEST_NUMBER)
    (g_LEAVES : PySem.W.nsIn K mainGlobals "LEAVES" = some (some (.ref ca_LEAVES))) (h_LEAVES : K.lookup ca_LEAVES = some co_LEAVES) (i_LEAVES : co_LEAVES.cls = .type "tuple") (j_LEAVES : co_LEAVES.data = .seq ci_LEAVES.toArray cn_LEAVES) (q_LEAVES : Vals [.str "var", .str "number"] ci_LEAVES)
    (g_MOST_IN_ALL : PySem.W.nsIn K mainGlobals "MOST_IN_ALL" = some (some cu_MOST_IN_ALL)) (r_MOST_IN_ALL : RelV (.int 20) cu_MOST_IN_ALL)
    (g_MOST_OPERATIONS : PySem.W.nsIn K mainGlobals "MOST_OPERATIONS" = some (some cu_MOST_OPERATIONS)) (r_MOST_OPERATIONS : RelV (.int 10) cu_MOST_OPERATIONS)
    (g_MOST_SHIFT : PySem.W.nsIn K mainGlobals "MOST_SHIFT" = some (some cu_MOST_SHIFT)) (r_MOST_SHIFT : RelV (.int 4) cu_MOST_SHIFT)
    (g_MOST_TESTS : PySem.W.nsIn K mainGlobals "MOST_TESTS" = some (some cu_MOST_TESTS)) (r_MOST_TESTS : RelV (.int 6) cu_MOST_TESTS)
    (g_MOST_TIMES : PySem.W.nsIn K mainGlobals "MOST_TIMES" = some (some cu_MOST_TIMES)) (r_MOST_TIMES : RelV (.int 9) cu_MOST_TIMES)
    (g_MOST_WORDS : PySem.W.nsIn K mainGlobals "MOST_WORDS" = some (some cu_MOST_WORDS)) (r_MOST_WORDS : RelV (.int 10) cu_MOST_WORDS)
    (g_NEITHER : PySem.W.nsIn K mainGlobals "NEITHER" = some (some cu_NEITHER)) (r_NEITHER : RelV (.str "neither") cu_NEITHER)
    (g_PAIRED : PySem.W.nsIn K mainGlobals "PAIRED" = some (some (.ref ca_PAIRED))) (h_PAIRED : K.lookup ca_PAIRED = some co_PAIRED) (i_PAIRED : co_PAIRED.cls = .type "tuple") (j_PAIRED : co_PAIRED.data = .seq ci_PAIRED.toArray cn_PAIRED) (q_PAIRED : Vals [.str "and", .str "or", .str "xor", .str "plus", .str "minus"] ci_PAIRED)
    (g_TESTS : PySem.W.nsIn K mainGlobals "TESTS" = some (some (.ref ca_TESTS))) (h_TESTS : K.lookup ca_TESTS = some co_TESTS) (i_TESTS : co_TESTS.cls = .type "tuple") (j_TESTS : co_TESTS.data = .seq ci_TESTS.toArray cn_TESTS) (q_TESTS : Vals [.str "equal", .str "below", .str "less"] ci_TESTS)
    (g_VARIABLES : PySem.W.nsIn K mainGlobals "VARIABLES" = some (some cu_VARIABLES)) (r_VARIABLES : RelV (.int 3) cu_VARIABLES)
    (z_all : PySem.W.nsIn K mainGlobals "all" = some none)
    (z_bool : PySem.W.nsIn K mainGlobals "bool" = some none)
    (z_int : PySem.W.nsIn K mainGlobals "int" = some none)
    (z_isinstance : PySem.W.nsIn K mainGlobals "isinstance" = some none)
    (z_len : PySem.W.nsIn K mainGlobals "len" = some none)
    (z_list : PySem.W.nsIn K mainGlobals "list" = some none)
    (z_max : PySem.W.nsIn K mainGlobals "max" = some none)
    (z_min : PySem.W.nsIn K mainGlobals "min" = some none)
    (z_range : PySem.W.nsIn K mainGlobals "range" = some none)
    (z_repr : PySem.W.nsIn K mainGlobals "repr" = some none)
    (z_str : PySem.W.nsIn K mainGlobals "str" = some none)
    (z_sum : PySem.W.nsIn K mainGlobals "sum" = some none)
    (z_tuple : PySem.W.nsIn K mainGlobals "tuple" = some none)
    : ∃ (fd : FuncData) (ce : Nat → Addr × List Str), (∀ (s : Shared) (v : Value), BindsTo s fd ⟨[v], []⟩ [("_law_script", v)]) ∧ ∀ base : Heap, K.In base → base.Ns mainGlobals mg → base.NoDigits → FG l.prog w K mg base CX0 60 fa fd ["_law_script"] (spG ⟨K, ce⟩ (run 60 i_law)) := by
  have e := hfa.symm.trans (PySem.W.mg_of X G a39)
  cases e
  have F0 := fun_mk (st := s_is_integer) l0 c0 k0
  have b0 := F0.binds (ps := ps 0) fun _ _ _ _ _ _ us hl => match us, hl with | [_], _ => rfl
  have F1 := fun_mk (st := s_is_between) l1 c1 k1
  have b1 := F1.binds (ps := ps 1) fun _ _ _ _ _ _ us hl => match us, hl with | [_, _, _], _ => rfl
  have F2 := fun_mk (st := s_parts_of) l2 c2 k2
  have b2 := F2.binds (ps := ps 2) fun _ _ _ _ _ _ us hl => match us, hl with | [_], _ => rfl
  have F3 := fun_mk (st := s_counted) l3 c3 k3
  have b3 := F3.binds (ps := ps 3) fun _ _ _ _ _ _ us hl => match us, hl with | [_, _], _ => rfl
  have F4 := fun_mk (st := s_paired) l4 c4 k4
  have b4 := F4.binds (ps := ps 4) fun _ _ _ _ _ _ us hl => match us, hl with | [_, _, _], _ => rfl
  have F5 := fun_mk (st := s_whole_of) l5 c5 k5
  have b5 := F5.binds (ps := ps 5) fun _ _ _ _ _ _ us hl => match us, hl with | [_, _], _ => rfl
  have F6 := fun_mk (st := s_value_of) l6 c6 k6
  have b6 := F6.binds (ps := ps 6) fun _ _ _ _ _ _ us hl => match us, hl with | [_, _, _], _ => rfl
  have F7 := fd_dfl (st := s_need_values) l7 c7 k7 t7 u7 v7 (by intro z; cases z)
  have b7 := F7.binds1 (ps := ps 7) 2 1 (by intro z; cases z) rfl fun _ _ _ _ _ _ _ us its hl hi => match us, its, hl, hi with | [_, _], [_], _, _ => ⟨_, rfl, rfl⟩
  have b7_1 := F7.binds1 (ps := ps 7) 1 0 (by intro z; cases z) rfl fun _ _ _ _ _ _ _ us its hl hi => match us, its, hl, hi with | [_], [_], _, _ => ⟨_, rfl, rfl⟩
  have F8 := fd_dfl (st := s_need_width) l8 c8 k8 t8 u8 v8 (by intro z; cases z)
  have b8 := F8.binds1 (ps := ps 8) 2 1 (by intro z; cases z) rfl fun _ _ _ _ _ _ _ us its hl hi => match us, its, hl, hi with | [_, _], [_], _, _ => ⟨_, rfl, rfl⟩
  have b8_1 := F8.binds1 (ps := ps 8) 1 0 (by intro z; cases z) rfl fun _ _ _ _ _ _ _ us its hl hi => match us, its, hl, hi with | [_], [_], _, _ => ⟨_, rfl, rfl⟩
  have F9 := fun_mk (st := s_operations_in) l9 c9 k9
  have b9 := F9.binds (ps := ps 9) fun _ _ _ _ _ _ us hl => match us, hl with | [_], _ => rfl
  have F10 := fun_mk (st := s_is_joined) l10 c10 k10
  have b10 := F10.binds (ps := ps 10) fun _ _ _ _ _ _ us hl => match us, hl with | [_], _ => rfl
  have F11 := fun_mk (st := s_is_statement) l11 c11 k11
  have b11 := F11.binds (ps := ps 11) fun _ _ _ _ _ _ us hl => match us, hl with | [_], _ => rfl
  have F12 := fun_mk (st := s_need_statement) l12 c12 k12
  have b12 := F12.binds (ps := ps 12) fun _ _ _ _ _ _ us hl => match us, hl with | [_], _ => rfl
  have F13 := fun_mk (st := s_plan_of) l13 c13 k13
  have b13 := F13.binds (ps := ps 13) fun _ _ _ _ _ _ us hl => match us, hl with | [_], _ => rfl
  have F14 := fun_mk (st := s_judged) l14 c14 k14
  have b14 := F14.binds (ps := ps 14) fun _ _ _ _ _ _ us hl => match us, hl with | [_, _], _ => rfl
  have F15 := fun_mk (st := s_signed) l15 c15 k15
  have b15 := F15.binds (ps := ps 15) fun _ _ _ _ _ _ us hl => match us, hl with | [_, _], _ => rfl
  have F16 := fun_mk (st := s_is_test_true) l16 c16 k16
  have b16 := F16.binds (ps := ps 16) fun _ _ _ _ _ _ us hl => match us, hl with | [_, _, _], _ => rfl
  have F17 := fun_mk (st := s_is_true_of) l17 c17 k17
  have b17 := F17.binds (ps := ps 17) fun _ _ _ _ _ _ us hl => match us, hl with | [_, _, _], _ => rfl
  have F18 := fun_mk (st := s_is_true) l18 c18 k18
  have b18 := F18.binds (ps := ps 18) fun _ _ _ _ _ _ us hl => match us, hl with | [_, _, _], _ => rfl
  have F19 := fun_mk (st := s_law_cell) l19 c19 k19
  have b19 := F19.binds (ps := ps 19) fun _ _ _ _ _ _ us hl => match us, hl with | [_, _], _ => rfl
  have F20 := fun_mk (st := s_law_pen) l20 c20 k20
  have b20 := F20.binds (ps := ps 20) fun _ _ _ _ _ _ us hl => match us, hl with | [_], _ => rfl
  have F21 := fun_mk (st := s_law_draw) l21 c21 k21
  have b21 := F21.binds (ps := ps 21) fun _ _ _ _ _ _ us hl => match us, hl with | [_, _], _ => rfl
  have F22 := fun_mk (st := s_law_pick) l22 c22 k22
  have b22 := F22.binds (ps := ps 22) fun _ _ _ _ _ _ us hl => match us, hl with | [_, _], _ => rfl
  have F23 := fun_mk (st := s_law_same) l23 c23 k23
  have b23 := F23.binds (ps := ps 23) fun _ _ _ _ _ _ us hl => match us, hl with | [_, _], _ => rfl
  have F24 := fun_mk (st := s_law_leaf) l24 c24 k24
  have b24 := F24.binds (ps := ps 24) fun _ _ _ _ _ _ us hl => match us, hl with | [_, _], _ => rfl
  have F25 := fun_mk (st := s_law_drawn) l25 c25 k25
  have b25 := F25.binds (ps := ps 25) fun _ _ _ _ _ _ us hl => match us, hl with | [_, _, _, _, _], _ => rfl
  have F26 := fun_mk (st := s_law_any) l26 c26 k26
  have b26 := F26.binds (ps := ps 26) fun _ _ _ _ _ _ us hl => match us, hl with | [_, _], _ => rfl
  have F27 := fun_mk (st := s_law_mild) l27 c27 k27
  have b27 := F27.binds (ps := ps 27) fun _ _ _ _ _ _ us hl => match us, hl with | [_, _], _ => rfl
  have F28 := fun_mk (st := s_law_worth) l28 c28 k28
  have b28 := F28.binds (ps := ps 28) fun _ _ _ _ _ _ us hl => match us, hl with | [_, _], _ => rfl
  have F29 := fun_mk (st := s_law_two) l29 c29 k29
  have b29 := F29.binds (ps := ps 29) fun _ _ _ _ _ _ us hl => match us, hl with | [_], _ => rfl
  have F30 := fun_mk (st := s_law_numbers) l30 c30 k30
  have b30 := F30.binds (ps := ps 30) fun _ _ _ _ _ _ us hl => match us, hl with | [_, _], _ => rfl
  have F31 := fun_mk (st := s_law_tests) l31 c31 k31
  have b31 := F31.binds (ps := ps 31) fun _ _ _ _ _ _ us hl => match us, hl with | [_], _ => rfl
  have F32 := fun_mk (st := s_law_judge) l32 c32 k32
  have b32 := F32.binds (ps := ps 32) fun _ _ _ _ _ _ us hl => match us, hl with | [_, _], _ => rfl
  have F33 := fun_mk (st := s_law_signed) l33 c33 k33
  have b33 := F33.binds (ps := ps 33) fun _ _ _ _ _ _ us hl => match us, hl with | [_, _], _ => rfl
  have F34 := fun_mk (st := s_law_test_so) l34 c34 k34
  have b34 := F34.binds (ps := ps 34) fun _ _ _ _ _ _ us hl => match us, hl with | [_, _, _], _ => rfl
  have F35 := fun_mk (st := s_law_so) l35 c35 k35
  have b35 := F35.binds (ps := ps 35) fun _ _ _ _ _ _ us hl => match us, hl with | [_, _, _], _ => rfl
  have F36 := fun_mk (st := s_law_plain) l36 c36 k36
  have b36 := F36.binds (ps := ps 36) fun _ _ _ _ _ _ us hl => match us, hl with | [_], _ => rfl
  have F37 := fun_mk (st := s_law_odd_widths) l37 c37 k37
  have b37 := F37.binds (ps := ps 37) fun _ _ _ _ _ _ us hl => match us, hl with | [_], _ => rfl
  have F38 := fun_mk (st := s_law_stated) l38 c38 k38
  have b38 := F38.binds (ps := ps 38) fun _ _ _ _ _ _ us hl => match us, hl with | [_, _], _ => rfl
  have F39 := fun_mk (st := s_law) l39 c39 k39
  have b39 := F39.binds (ps := ps 39) fun _ _ _ _ _ _ us hl => match us, hl with | [_], _ => rfl
  let ad : Nat → Addr := fun i => match i with | 0 => f0 | 1 => f1 | 2 => f2 | 3 => f3 | 4 => f4 | 5 => f5 | 6 => f6 | 7 => f7 | 8 => f8 | 9 => f9 | 10 => f10 | 11 => f11 | 12 => f12 | 13 => f13 | 14 => f14 | 15 => f15 | 16 => f16 | 17 => f17 | 18 => f18 | 19 => f19 | 20 => f20 | 21 => f21 | 22 => f22 | 23 => f23 | 24 => f24 | 25 => f25 | 26 => f26 | 27 => f27 | 28 => f28 | 29 => f29 | 30 => f30 | 31 => f31 | 32 => f32 | 33 => f33 | 34 => f34 | 35 => f35 | 36 => f36 | 37 => f37 | 38 => f38 | 39 => fa | _ => 0
  let fd : Nat → FuncData := fun i => match i with
    | 0 => PySem.W.fnOf "is_integer" "is_integer" (defArgs s_is_integer) (defBody s_is_integer) (defScope s_is_integer) .none kV0 dc0 pm0 an0 cd0 ct0
    | 1 => PySem.W.fnOf "is_between" "is_between" (defArgs s_is_between) (defBody s_is_between) (defScope s_is_between) .none kV1 dc1 pm1 an1 cd1 ct1
    | 2 => PySem.W.fnOf "parts_of" "parts_of" (defArgs s_parts_of) (defBody s_parts_of) (defScope s_parts_of) .none kV2 dc2 pm2 an2 cd2 ct2
    | 3 => PySem.W.fnOf "counted" "counted" (defArgs s_counted) (defBody s_counted) (defScope s_counted) .none kV3 dc3 pm3 an3 cd3 ct3
    | 4 => PySem.W.fnOf "paired" "paired" (defArgs s_paired) (defBody s_paired) (defScope s_paired) .none kV4 dc4 pm4 an4 cd4 ct4
    | 5 => PySem.W.fnOf "whole_of" "whole_of" (defArgs s_whole_of) (defBody s_whole_of) (defScope s_whole_of) .none kV5 dc5 pm5 an5 cd5 ct5
    | 6 => PySem.W.fnOf "value_of" "value_of" (defArgs s_value_of) (defBody s_value_of) (defScope s_value_of) .none kV6 dc6 pm6 an6 cd6 ct6
    | 7 => PySem.W.fnOf "need_values" "need_values" (defArgs s_need_values) (defBody s_need_values) (defScope s_need_values) (.ref td7) kV7 dc7 pm7 an7 cd7 ct7
    | 8 => PySem.W.fnOf "need_width" "need_width" (defArgs s_need_width) (defBody s_need_width) (defScope s_need_width) (.ref td8) kV8 dc8 pm8 an8 cd8 ct8
    | 9 => PySem.W.fnOf "operations_in" "operations_in" (defArgs s_operations_in) (defBody s_operations_in) (defScope s_operations_in) .none kV9 dc9 pm9 an9 cd9 ct9
    | 10 => PySem.W.fnOf "is_joined" "is_joined" (defArgs s_is_joined) (defBody s_is_joined) (defScope s_is_joined) .none kV10 dc10 pm10 an10 cd10 ct10
    | 11 => PySem.W.fnOf "is_statement" "is_statement" (defArgs s_is_statement) (defBody s_is_statement) (defScope s_is_statement) .none kV11 dc11 pm11 an11 cd11 ct11
    | 12 => PySem.W.fnOf "need_statement" "need_statement" (defArgs s_need_statement) (defBody s_need_statement) (defScope s_need_statement) .none kV12 dc12 pm12 an12 cd12 ct12
    | 13 => PySem.W.fnOf "plan_of" "plan_of" (defArgs s_plan_of) (defBody s_plan_of) (defScope s_plan_of) .none kV13 dc13 pm13 an13 cd13 ct13
    | 14 => PySem.W.fnOf "judged" "judged" (defArgs s_judged) (defBody s_judged) (defScope s_judged) .none kV14 dc14 pm14 an14 cd14 ct14
    | 15 => PySem.W.fnOf "signed" "signed" (defArgs s_signed) (defBody s_signed) (defScope s_signed) .none kV15 dc15 pm15 an15 cd15 ct15
    | 16 => PySem.W.fnOf "is_test_true" "is_test_true" (defArgs s_is_test_true) (defBody s_is_test_true) (defScope s_is_test_true) .none kV16 dc16 pm16 an16 cd16 ct16
    | 17 => PySem.W.fnOf "is_true_of" "is_true_of" (defArgs s_is_true_of) (defBody s_is_true_of) (defScope s_is_true_of) .none kV17 dc17 pm17 an17 cd17 ct17
    | 18 => PySem.W.fnOf "is_true" "is_true" (defArgs s_is_true) (defBody s_is_true) (defScope s_is_true) .none kV18 dc18 pm18 an18 cd18 ct18
    | 19 => PySem.W.fnOf "_law_cell" "_law_cell" (defArgs s_law_cell) (defBody s_law_cell) (defScope s_law_cell) .none kV19 dc19 pm19 an19 cd19 ct19
    | 20 => PySem.W.fnOf "_law_pen" "_law_pen" (defArgs s_law_pen) (defBody s_law_pen) (defScope s_law_pen) .none kV20 dc20 pm20 an20 cd20 ct20
    | 21 => PySem.W.fnOf "_law_draw" "_law_draw" (defArgs s_law_draw) (defBody s_law_draw) (defScope s_law_draw) .none kV21 dc21 pm21 an21 cd21 ct21
    | 22 => PySem.W.fnOf "_law_pick" "_law_pick" (defArgs s_law_pick) (defBody s_law_pick) (defScope s_law_pick) .none kV22 dc22 pm22 an22 cd22 ct22
    | 23 => PySem.W.fnOf "_law_same" "_law_same" (defArgs s_law_same) (defBody s_law_same) (defScope s_law_same) .none kV23 dc23 pm23 an23 cd23 ct23
    | 24 => PySem.W.fnOf "_law_leaf" "_law_leaf" (defArgs s_law_leaf) (defBody s_law_leaf) (defScope s_law_leaf) .none kV24 dc24 pm24 an24 cd24 ct24
    | 25 => PySem.W.fnOf "_law_drawn" "_law_drawn" (defArgs s_law_drawn) (defBody s_law_drawn) (defScope s_law_drawn) .none kV25 dc25 pm25 an25 cd25 ct25
    | 26 => PySem.W.fnOf "_law_any" "_law_any" (defArgs s_law_any) (defBody s_law_any) (defScope s_law_any) .none kV26 dc26 pm26 an26 cd26 ct26
    | 27 => PySem.W.fnOf "_law_mild" "_law_mild" (defArgs s_law_mild) (defBody s_law_mild) (defScope s_law_mild) .none kV27 dc27 pm27 an27 cd27 ct27
    | 28 => PySem.W.fnOf "_law_worth" "_law_worth" (defArgs s_law_worth) (defBody s_law_worth) (defScope s_law_worth) .none kV28 dc28 pm28 an28 cd28 ct28
    | 29 => PySem.W.fnOf "_law_two" "_law_two" (defArgs s_law_two) (defBody s_law_two) (defScope s_law_two) .none kV29 dc29 pm29 an29 cd29 ct29
    | 30 => PySem.W.fnOf "_law_numbers" "_law_numbers" (defArgs s_law_numbers) (defBody s_law_numbers) (defScope s_law_numbers) .none kV30 dc30 pm30 an30 cd30 ct30
    | 31 => PySem.W.fnOf "_law_tests" "_law_tests" (defArgs s_law_tests) (defBody s_law_tests) (defScope s_law_tests) .none kV31 dc31 pm31 an31 cd31 ct31
    | 32 => PySem.W.fnOf "_law_judge" "_law_judge" (defArgs s_law_judge) (defBody s_law_judge) (defScope s_law_judge) .none kV32 dc32 pm32 an32 cd32 ct32
    | 33 => PySem.W.fnOf "_law_signed" "_law_signed" (defArgs s_law_signed) (defBody s_law_signed) (defScope s_law_signed) .none kV33 dc33 pm33 an33 cd33 ct33
    | 34 => PySem.W.fnOf "_law_test_so" "_law_test_so" (defArgs s_law_test_so) (defBody s_law_test_so) (defScope s_law_test_so) .none kV34 dc34 pm34 an34 cd34 ct34
    | 35 => PySem.W.fnOf "_law_so" "_law_so" (defArgs s_law_so) (defBody s_law_so) (defScope s_law_so) .none kV35 dc35 pm35 an35 cd35 ct35
    | 36 => PySem.W.fnOf "_law_plain" "_law_plain" (defArgs s_law_plain) (defBody s_law_plain) (defScope s_law_plain) .none kV36 dc36 pm36 an36 cd36 ct36
    | 37 => PySem.W.fnOf "_law_odd_widths" "_law_odd_widths" (defArgs s_law_odd_widths) (defBody s_law_odd_widths) (defScope s_law_odd_widths) .none kV37 dc37 pm37 an37 cd37 ct37
    | 38 => PySem.W.fnOf "_law_stated" "_law_stated" (defArgs s_law_stated) (defBody s_law_stated) (defScope s_law_stated) .none kV38 dc38 pm38 an38 cd38 ct38
    | 39 => PySem.W.fnOf "law" "law" (defArgs s_law) (defBody s_law) (defScope s_law) .none kV39 dc39 pm39 an39 cd39 ct39
    | _ => PySem.W.fnOf "law" "law" (defArgs s_law) (defBody s_law) (defScope s_law) .none kV39 dc39 pm39 an39 cd39 ct39
  have T : Txt K mg ad fd := {
    m_is_integer := PySem.W.mg_of X G a0
    k_is_integer := k0
    b_is_integer := b0
    f_is_integer := fd_fun F0
    m_is_between := PySem.W.mg_of X G a1
    k_is_between := k1
    b_is_between := b1
    f_is_between := fd_fun F1
    m_parts_of := PySem.W.mg_of X G a2
    k_parts_of := k2
    b_parts_of := b2
    f_parts_of := fd_fun F2
    m_counted := PySem.W.mg_of X G a3
    k_counted := k3
    b_counted := b3
    f_counted := fd_fun F3
    m_paired := PySem.W.mg_of X G a4
    k_paired := k4
    b_paired := b4
    f_paired := fd_fun F4
    m_whole_of := PySem.W.mg_of X G a5
    k_whole_of := k5
    b_whole_of := b5
    f_whole_of := fd_fun F5
    m_value_of := PySem.W.mg_of X G a6
    k_value_of := k6
    b_value_of := b6
    f_value_of := fd_fun F6
    m_need_values := PySem.W.mg_of X G a7
    k_need_values := k7
    b_need_values := bfull b7
    f_need_values := F7
    m_need_width := PySem.W.mg_of X G a8
    k_need_width := k8
    b_need_width := bfull b8
    f_need_width := F8
    m_operations_in := PySem.W.mg_of X G a9
    k_operations_in := k9
    b_operations_in := b9
    f_operations_in := fd_fun F9
    m_is_joined := PySem.W.mg_of X G a10
    k_is_joined := k10
    b_is_joined := b10
    f_is_joined := fd_fun F10
    m_is_statement := PySem.W.mg_of X G a11
    k_is_statement := k11
    b_is_statement := b11
    f_is_statement := fd_fun F11
    m_need_statement := PySem.W.mg_of X G a12
    k_need_statement := k12
    b_need_statement := b12
    f_need_statement := fd_fun F12
    m_plan_of := PySem.W.mg_of X G a13
    k_plan_of := k13
    b_plan_of := b13
    f_plan_of := fd_fun F13
    m_judged := PySem.W.mg_of X G a14
    k_judged := k14
    b_judged := b14
    f_judged := fd_fun F14
    m_signed := PySem.W.mg_of X G a15
    k_signed := k15
    b_signed := b15
    f_signed := fd_fun F15
    m_is_test_true := PySem.W.mg_of X G a16
    k_is_test_true := k16
    b_is_test_true := b16
    f_is_test_true := fd_fun F16
    m_is_true_of := PySem.W.mg_of X G a17
    k_is_true_of := k17
    b_is_true_of := b17
    f_is_true_of := fd_fun F17
    m_is_true := PySem.W.mg_of X G a18
    k_is_true := k18
    b_is_true := b18
    f_is_true := fd_fun F18
    m_law_cell := PySem.W.mg_of X G a19
    k_law_cell := k19
    b_law_cell := b19
    f_law_cell := fd_fun F19
    m_law_pen := PySem.W.mg_of X G a20
    k_law_pen := k20
    b_law_pen := b20
    f_law_pen := fd_fun F20
    m_law_draw := PySem.W.mg_of X G a21
    k_law_draw := k21
    b_law_draw := b21
    f_law_draw := fd_fun F21
    m_law_pick := PySem.W.mg_of X G a22
    k_law_pick := k22
    b_law_pick := b22
    f_law_pick := fd_fun F22
    m_law_same := PySem.W.mg_of X G a23
    k_law_same := k23
    b_law_same := b23
    f_law_same := fd_fun F23
    m_law_leaf := PySem.W.mg_of X G a24
    k_law_leaf := k24
    b_law_leaf := b24
    f_law_leaf := fd_fun F24
    m_law_drawn := PySem.W.mg_of X G a25
    k_law_drawn := k25
    b_law_drawn := b25
    f_law_drawn := fd_fun F25
    m_law_any := PySem.W.mg_of X G a26
    k_law_any := k26
    b_law_any := b26
    f_law_any := fd_fun F26
    m_law_mild := PySem.W.mg_of X G a27
    k_law_mild := k27
    b_law_mild := b27
    f_law_mild := fd_fun F27
    m_law_worth := PySem.W.mg_of X G a28
    k_law_worth := k28
    b_law_worth := b28
    f_law_worth := fd_fun F28
    m_law_two := PySem.W.mg_of X G a29
    k_law_two := k29
    b_law_two := b29
    f_law_two := fd_fun F29
    m_law_numbers := PySem.W.mg_of X G a30
    k_law_numbers := k30
    b_law_numbers := b30
    f_law_numbers := fd_fun F30
    m_law_tests := PySem.W.mg_of X G a31
    k_law_tests := k31
    b_law_tests := b31
    f_law_tests := fd_fun F31
    m_law_judge := PySem.W.mg_of X G a32
    k_law_judge := k32
    b_law_judge := b32
    f_law_judge := fd_fun F32
    m_law_signed := PySem.W.mg_of X G a33
    k_law_signed := k33
    b_law_signed := b33
    f_law_signed := fd_fun F33
    m_law_test_so := PySem.W.mg_of X G a34
    k_law_test_so := k34
    b_law_test_so := b34
    f_law_test_so := fd_fun F34
    m_law_so := PySem.W.mg_of X G a35
    k_law_so := k35
    b_law_so := b35
    f_law_so := fd_fun F35
    m_law_plain := PySem.W.mg_of X G a36
    k_law_plain := k36
    b_law_plain := b36
    f_law_plain := fd_fun F36
    m_law_odd_widths := PySem.W.mg_of X G a37
    k_law_odd_widths := k37
    b_law_odd_widths := b37
    f_law_odd_widths := fd_fun F37
    m_law_stated := PySem.W.mg_of X G a38
    k_law_stated := k38
    b_law_stated := b38
    f_law_stated := fd_fun F38
    m_law := PySem.W.mg_of X G a39
    k_law := k39
    b_law := b39
    f_law := fd_fun F39
    b_need_values_1 := b7_1
    b_need_width_1 := b8_1
    g_BOTH := ⟨_, _, PySem.W.mg_of X G g_BOTH, r_BOTH, fun _ _ => rv_str _⟩
    g_EITHER := ⟨_, _, PySem.W.mg_of X G g_EITHER, r_EITHER, fun _ _ => rv_str _⟩
    g_GREATEST_NUMBER := ⟨_, _, PySem.W.mg_of X G g_GREATEST_NUMBER, r_GREATEST_NUMBER, fun _ _ => rv_int _⟩
    g_LEAVES := ⟨.ref _, _, PySem.W.mg_of X G g_LEAVES, rfl, fun _ _ => rv_written h_LEAVES i_LEAVES j_LEAVES q_LEAVES (by decide) (rvs_cons (rv_str _) (rvs_cons (rv_str _) rvs_nil))⟩
    g_MOST_IN_ALL := ⟨_, _, PySem.W.mg_of X G g_MOST_IN_ALL, r_MOST_IN_ALL, fun _ _ => rv_int _⟩
    g_MOST_OPERATIONS := ⟨_, _, PySem.W.mg_of X G g_MOST_OPERATIONS, r_MOST_OPERATIONS, fun _ _ => rv_int _⟩
    g_MOST_SHIFT := ⟨_, _, PySem.W.mg_of X G g_MOST_SHIFT, r_MOST_SHIFT, fun _ _ => rv_int _⟩
    g_MOST_TESTS := ⟨_, _, PySem.W.mg_of X G g_MOST_TESTS, r_MOST_TESTS, fun _ _ => rv_int _⟩
    g_MOST_TIMES := ⟨_, _, PySem.W.mg_of X G g_MOST_TIMES, r_MOST_TIMES, fun _ _ => rv_int _⟩
    g_MOST_WORDS := ⟨_, _, PySem.W.mg_of X G g_MOST_WORDS, r_MOST_WORDS, fun _ _ => rv_int _⟩
    g_NEITHER := ⟨_, _, PySem.W.mg_of X G g_NEITHER, r_NEITHER, fun _ _ => rv_str _⟩
    g_PAIRED := ⟨.ref _, _, PySem.W.mg_of X G g_PAIRED, rfl, fun _ _ => rv_written h_PAIRED i_PAIRED j_PAIRED q_PAIRED (by decide) (rvs_cons (rv_str _) (rvs_cons (rv_str _) (rvs_cons (rv_str _) (rvs_cons (rv_str _) (rvs_cons (rv_str _) rvs_nil)))))⟩
    g_TESTS := ⟨.ref _, _, PySem.W.mg_of X G g_TESTS, rfl, fun _ _ => rv_written h_TESTS i_TESTS j_TESTS q_TESTS (by decide) (rvs_cons (rv_str _) (rvs_cons (rv_str _) (rvs_cons (rv_str _) rvs_nil)))⟩
    g_VARIABLES := ⟨_, _, PySem.W.mg_of X G g_VARIABLES, r_VARIABLES, fun _ _ => rv_int _⟩
    z_all := PySem.W.mg_none_of X G z_all
    z_bool := PySem.W.mg_none_of X G z_bool
    z_int := PySem.W.mg_none_of X G z_int
    z_isinstance := PySem.W.mg_none_of X G z_isinstance
    z_len := PySem.W.mg_none_of X G z_len
    z_list := PySem.W.mg_none_of X G z_list
    z_max := PySem.W.mg_none_of X G z_max
    z_min := PySem.W.mg_none_of X G z_min
    z_range := PySem.W.mg_none_of X G z_range
    z_repr := PySem.W.mg_none_of X G z_repr
    z_str := PySem.W.mg_none_of X G z_str
    z_sum := PySem.W.mg_none_of X G z_sum
    z_tuple := PySem.W.mg_none_of X G z_tuple
  }
  exact ⟨fd i_law, fun _ => (0, []), fun s v => .of_eq rfl, fun base _ _ nd => all_ok T nd 60 i_law⟩
end Lw

/-! K21: the law answers True. -/
namespace Lw
open PySem L2 G
theorem r_int (k : Nat) : IsInt (run (k + 1) 0) := isInt fun d M => rfl
theorem r_btw (k : Nat) : IsBtw (run (k + 2) 1) := isBtw (r_int k) fun d e g M => rfl
theorem r_parts (k : Nat) : IsParts (run (k + 3) 2) := isParts (r_btw k) fun d M => rfl
theorem r_counted (k : Nat) : CountE (run (k + 4) 3) := countE (r_parts k) fun d g M => rfl
theorem r_paired (k : Nat) : IsPaired (run (k + 1) 4) := isPaired fun d e g M => rfl
theorem r_whole_of (k : Nat) : WholeOf (run (k + 12) 5) := fun {B vs e} hv ho hops => tells_run (run := run) (i := 5) (j := 4) (d := 1) (B := B) r_paired (fun k d e M => rfl) (Nat.le_of_eq hv.len.symm) hv.rg hv.lo hv.hi 10 e k ho hops (by decide)
theorem r_value_of (k : Nat) : ValueOf (run (k + 13) 6) := valueOf (r_whole_of k) fun d e g M => rfl
theorem r_needvals (k : Nat) : NeedVals (run (k + 2) 7) := needVals (r_int k) fun d e M => rfl
theorem r_needwidth (k : Nat) : NeedWidth (run (k + 3) 8) := needWidth (r_btw k) fun d e M => rfl
theorem r_opsin (k : Nat) : OpsinS (run (k + 5) 9) := opsinS (r_counted k) fun d M => rfl
theorem r_joined (k : Nat) : JoinS (run (k + 1) 10) := joinS fun d M => rfl
theorem r_isst (k : Nat) : IsStS (run (k + 6) 11) := isStS (r_opsin k) (r_joined (k + 4)) fun d M => rfl
theorem r_needst (k : Nat) {s : Sta} {M : Mem} (h1 : s.ok 10) (h2 : s.tests ≤ 6) (h3 : s.words ≤ 10) (h4 : s.ops ≤ 20) : ∃ M', run (k + 7) 12 [s.enc] M = .ok .non M' ∧ Kp N0 M M' := by
  obtain ⟨M', e, k1⟩ := r_isst k (M := M) h1 h2 h3 h4
  refine ⟨M', ?_, k1⟩
  rw [in_need_statement]
  simp only [B_need_statement, bind_ok, bind_ex, outE_ok, outE_ex, retF_nx, retF_rt, retF_xc, x_optR, x_eV, x_eC, x_kB, x_eB, x_eU, x_eF, x_kM, x_eM, x_ift, x_iff, x_eIf, x_kTup, x_kLst, x_eTup, x_eLst, x_aN, x_kCc, x_kC, x_aC, x_tV, x_kCn, x_kCm, x_tCm, x_okB, x_tA, x_tO, x_kN, x_tN, x_tCh, x_kCj, x_kCi, x_kCh, x_eCh, x_kNb, x_kAn, x_kOr, x_kNo, x_eAnd, x_eOr, x_eNot, x_kCl, x_eCall, x_kS2, x_kS1, x_eSl, x_oN, x_asO, x_oS, x_mLoc, x_kML, x_eML, x_kM0, x_kMl0, x_eML0, x_truB, x_truI, x_asB, x_cnx, x_crt, x_cbk, x_cct, x_cxc, x_sSeq, x_sNil, x_sBrk, x_sCnt, x_kEx, x_kSet, x_sEx, x_sSet, x_okO, x_putsN, x_putsC, x_kPar, x_sPar, x_kRet, x_sRet, x_sRetN, x_sIf, x_kSb3, x_kSb2, x_kSb1, x_sSub, x_kAsg, x_sAsg, x_pnm, x_ptp, x_kFor, x_sFor, x_itT, x_iR1, x_kR2, x_iR2, x_iE, x_tY, x_wN, x_wC, List.getElem?_cons_zero, List.getElem?_cons_succ, List.set_cons_zero, List.set_cons_succ, List.append_nil, List.nil_append, List.cons_append, List.length_cons, List.length_nil, Nat.reduceLeDiff, Nat.reduceAdd, Bool.not_true, Bool.not_false, T_ok, x_kMt, x_sMt, x_mtN, x_mtC, x_sWh, true_or, true_and, and_true, if_true, if_false, e]
theorem r_plan (k : Nat) : PlanOf (run (k + 1) 13) := planOf fun d M => rfl
theorem r_judged (k : Nat) : Judged (run (k + 1) 14) := judged_ok fun d e M => rfl
theorem r_signed (k : Nat) : Signed (run (k + 1) 15) := signed_ok fun d e M => rfl
theorem r_test (k : Nat) : TestT (run (k + 14) 16) := testT (r_value_of k) (r_signed (k + 12)) fun d e g M => rfl
theorem r_ito (k : Nat) : ItoS (run (k + 15) 17) := itoS (r_plan (k + 13)) (r_judged (k + 13)) (r_test k) fun d e g M => rfl
theorem r_istrue (k : Nat) {B : Nat} {vs : List Int} {s : Sta} {wd : Nat} {M : Mem} (hv : Vals3 B vs) (h1 : s.ok 10) (h2 : s.tests ≤ 6) (h3 : s.words ≤ 10) (h4 : s.ops ≤ 20) (w1 : 1 ≤ wd) (w2 : wd ≤ 2000) :
    ∃ M', run (k + 16) 18 [s.enc, encV vs, .int wd] M = .ok (.bl (s.so (tsoV vs wd))) M' ∧ Kp N0 M M' := by
  obtain ⟨M1, e1, k1⟩ := r_needst (k + 8) (M := M) h1 h2 h3 h4
  obtain ⟨M2, e2, k2⟩ := r_needvals (k + 13) (M := M1) hv.len (by decide)
  have e3 : run (k + 15) 8 [.int wd, .int 2000] M2 = .ok .non M2 := r_needwidth (k + 12) w1 w2
  obtain ⟨M3, e4, k3⟩ := r_ito k (M := M2) hv h1 (by rw [s.size_tw]; omega) w1 (by omega)
  refine ⟨M3, ?_, (k1.trans k2).trans k3⟩
  rw [in_is_true]
  have e1' : run (k + 15) 12 [s.enc] M = .ok .non M1 := e1
  have e2' : run (k + 15) 7 [encV vs, .int 3] M1 = .ok .non M2 := e2
  simp only [B_is_true, bind_ok, bind_ex, outE_ok, outE_ex, retF_nx, retF_rt, retF_xc, x_optR, x_eV, x_eC, x_kB, x_eB, x_eU, x_eF, x_kM, x_eM, x_ift, x_iff, x_eIf, x_kTup, x_kLst, x_eTup, x_eLst, x_aN, x_kCc, x_kC, x_aC, x_tV, x_kCn, x_kCm, x_tCm, x_okB, x_tA, x_tO, x_kN, x_tN, x_tCh, x_kCj, x_kCi, x_kCh, x_eCh, x_kNb, x_kAn, x_kOr, x_kNo, x_eAnd, x_eOr, x_eNot, x_kCl, x_eCall, x_kS2, x_kS1, x_eSl, x_oN, x_asO, x_oS, x_mLoc, x_kML, x_eML, x_kM0, x_kMl0, x_eML0, x_truB, x_truI, x_asB, x_cnx, x_crt, x_cbk, x_cct, x_cxc, x_sSeq, x_sNil, x_sBrk, x_sCnt, x_kEx, x_kSet, x_sEx, x_sSet, x_okO, x_putsN, x_putsC, x_kPar, x_sPar, x_kRet, x_sRet, x_sRetN, x_sIf, x_kSb3, x_kSb2, x_kSb1, x_sSub, x_kAsg, x_sAsg, x_pnm, x_ptp, x_kFor, x_sFor, x_itT, x_iR1, x_kR2, x_iR2, x_iE, x_tY, x_wN, x_wC, List.getElem?_cons_zero, List.getElem?_cons_succ, List.set_cons_zero, List.set_cons_succ, List.append_nil, List.nil_append, List.cons_append, List.length_cons, List.length_nil, Nat.reduceLeDiff, Nat.reduceAdd, Bool.not_true, Bool.not_false, T_ok, x_kMt, x_sMt, x_mtN, x_mtC, x_sWh, true_or, true_and, and_true, if_true, if_false, e1', e2', e3, e4]
theorem r_cell (k : Nat) : IsCell (run (k + 1) 19) := isCell fun d e M => rfl
theorem r_pen (k : Nat) : IsPen (run (k + 1) 20) := isPen fun d M => rfl
theorem r_draw (k : Nat) : IsDraw (run (k + 1) 21) := isDraw fun d e M => rfl
theorem r_pick (k : Nat) : IsPick (run (k + 2) 22) := isPick (r_draw k) fun d e M => rfl
theorem r_same (k : Nat) {d e : D} {s t : Str} {M : Mem} (hd : bRepr [d] M = .ok (.str s) M) (he : bRepr [e] M = .ok (.str t) M) : run (k + 1) 23 [d, e] M = .ok (.bl (s == t)) M := same_ok (fun d e M => rfl) hd he
theorem r_leaf (k : Nat) : IsLeaf (run (k + 3) 24) := isLeaf (r_draw (k + 1)) (r_pick k) fun d e M => rfl
theorem r_drawn (k m : Nat) (h : m ≤ 10) : Draws (run (k + 14) 25) m := draws_run (run := run) (i := 25) (j := 21) (g := 22) (l := 24) (d := 3) (fun k => r_draw (k + 2)) (fun k => r_pick (k + 1)) r_leaf (fun k a b c d e M => rfl) 10 m k h (by decide)
theorem r_any {k m t p : Nat} {M : Mem} (hm : m ≤ 10) (hp : PenAt t p M) (ht : t + 420 < 1000000000) : ∃ (e : Ex) (M' : Mem), run (k + 15) 26 [.loc p, .int m] M = .ok e.enc M' ∧ e.ok ∧ e.ops ≤ m ∧ PenAt (t + 420) p M' ∧ Kp (N1 p) M M' := by
  obtain ⟨e, M', e1, a1, b1, c1, d1⟩ := r_drawn k m hm (far := 1000) (sh := 4) (sc := 9) hp (by omega) (by decide) (by decide) (by decide) (by decide)
  refine ⟨e, M', ?_, a1, by omega, c1.mono (by omega), d1⟩
  rw [in_law_any]
  have e1' : run (k + 14) 25 [.loc p, .int m, .int 1000, .int 4, .int 9] M = .ok e.enc M' := e1
  simp only [B_law_any, bind_ok, bind_ex, outE_ok, outE_ex, retF_nx, retF_rt, retF_xc, x_optR, x_eV, x_eC, x_kB, x_eB, x_eU, x_eF, x_kM, x_eM, x_ift, x_iff, x_eIf, x_kTup, x_kLst, x_eTup, x_eLst, x_aN, x_kCc, x_kC, x_aC, x_tV, x_kCn, x_kCm, x_tCm, x_okB, x_tA, x_tO, x_kN, x_tN, x_tCh, x_kCj, x_kCi, x_kCh, x_eCh, x_kNb, x_kAn, x_kOr, x_kNo, x_eAnd, x_eOr, x_eNot, x_kCl, x_eCall, x_kS2, x_kS1, x_eSl, x_oN, x_asO, x_oS, x_mLoc, x_kML, x_eML, x_kM0, x_kMl0, x_eML0, x_truB, x_truI, x_asB, x_cnx, x_crt, x_cbk, x_cct, x_cxc, x_sSeq, x_sNil, x_sBrk, x_sCnt, x_kEx, x_kSet, x_sEx, x_sSet, x_okO, x_putsN, x_putsC, x_kPar, x_sPar, x_kRet, x_sRet, x_sRetN, x_sIf, x_kSb3, x_kSb2, x_kSb1, x_sSub, x_kAsg, x_sAsg, x_pnm, x_ptp, x_kFor, x_sFor, x_itT, x_iR1, x_kR2, x_iR2, x_iE, x_tY, x_wN, x_wC, List.getElem?_cons_zero, List.getElem?_cons_succ, List.set_cons_zero, List.set_cons_succ, List.append_nil, List.nil_append, List.cons_append, List.length_cons, List.length_nil, Nat.reduceLeDiff, Nat.reduceAdd, Bool.not_true, Bool.not_false, T_ok, x_kMt, x_sMt, x_mtN, x_mtC, x_sWh, true_or, true_and, and_true, if_true, if_false, e1']
theorem r_mild (k : Nat) : Mild (run (k + 15) 27) := isMild (fun m hm => r_drawn k m (by omega)) fun d e M => rfl
theorem r_two (k : Nat) : IsTwo (run (k + 1) 29) := isTwo fun d M => rfl
theorem r_worth (k : Nat) : WholeOf (run (k + 12) 28) := fun {B vs e} hv ho hops => worth_run (run := run) (i := 28) (j := 29) (d := 1) (B := B) r_two (fun k d e M => rfl) (Nat.le_of_eq hv.len.symm) hv.rg hv.lo hv.hi 10 e k ho hops (by decide)
theorem r_nums (k : Nat) : IsNums (run (k + 3) 30) := isNums (two := run (k + 2) 29) (dr := run (k + 2) 21) (pick := run (k + 2) 22) (r_two (k + 1)) (r_draw (k + 1)) (r_pick k) fun d e M => rfl
theorem r_tests (k : Nat) (s : Sta) (h1 : s.words ≤ 10) (h2 : s.tests ≤ 1000) : LTests (run (k + 11) 31) s := ltests_run (run := run) (i := 31) (fun k d M => rfl) 10 s k h1 h2
theorem r_judge (k : Nat) (g : Tw → Ex → Ex → Bool) (s : Sta) (h1 : s.words ≤ 10) : LJudge g (run (k + 11) 32) s := @fun M q rest => ljudge_run (run := run) (i := 32) (fun k d e M => rfl) 10 s k h1
theorem r_lsigned (k : Nat) : Signed (run (k + 2) 33) := lsigned_ok (r_two k) fun d e M => rfl
theorem r_ltest (k : Nat) : TestT (run (k + 13) 34) := ltestT (wo := run (k + 12) 28) (sg := run (k + 12) 33) (tw := run (k + 12) 29) (r_worth k) (r_lsigned (k + 10)) (r_two (k + 11)) fun d e g M => rfl
theorem r_so (k : Nat) {B : Nat} {vs : List Int} {s : Sta} {wd : Nat} {M : Mem} (hv : Vals3 B vs) (h1 : s.ok 10) (h2 : s.tests ≤ 6) (h3 : s.words ≤ 10) (w1 : 1 ≤ wd) (w2 : wd ≤ 2000) :
    ∃ M', run (k + 14) 35 [s.enc, encV vs, .int wd] M = .ok (.bl (s.so (tsoV vs wd))) M' ∧ Kp N0 M M' :=
  lso_ok (lt := run (k + 13) 31) (lj := run (k + 13) 32) (ts := run (k + 13) 34) (r_tests (k + 2) s h3 (by omega)) (@fun M q rest => r_judge (k + 2) _ s h3) (r_ltest k) (fun d e g M => rfl) hv h1 (by omega) w1 (by omega)
theorem r_plain (k : Nat) : SDraw (run (k + 16) 36) := plain_ok (r_draw (k + 14)) (r_pick (k + 13)) (r_mild k) fun d M => rfl
theorem r_oddw (k : Nat) : SDraw (run (k + 3) 37) := oddw_ok (r_draw (k + 1)) (r_pick k) fun d M => rfl
theorem r_stated (k : Nat) : Stated (run (k + 20) 38) 3 := stated_run (run := run) (i := 38) (j := 21) (g := 22) (o := 37) (l := 36) (d := 16) (fun k => r_draw (k + 15)) (fun k => r_pick (k + 14)) (fun k => r_oddw (k + 13)) (fun k => r_plain k) (fun k a b M => rfl) 3 3 k (by decide) (by decide)
theorem two_bl (b : Bool) : ∃ s, ∀ M p, M[p]? = some (O.lst [.bl b, .bl b]) → bRepr [.loc p] M = .ok (.str s) M :=
  (FitS.cons (Fit.bl (b := b)) (FitS.cons (Fit.bl (b := b)) FitS.nil)).list (by decide) (Nat.le_of_ble_eq_true rfl)
/-! ### one turn -/
abbrev TB (k : Nat) : LS := (sSeq (sSet 8 (eCall (run (k + 21) 30) [] (aC (eV 2) (aC (eCall (run (k + 21) 22) [] (aC (eV 2) (aC (eLst (aC (eV 6) (aC (eV 6) (aC (eC (.int 3)) aN)))) aN))) aN))))
  (sSeq (sPar [9, 10] (aC (eF bRepr (aC (eTup (aC (eV 5) (aC (eV 8) aN))) aN)) (aC (eCall (run (k + 21) 35) [] (aC (eV 5) (aC (eV 8) (aC (eV 6) aN)))) aN)))
  (sSeq (sIf (tN (tV (eCall (run (k + 21) 23) [] (aC (eLc (iR1 (eC (.int 2))) (.nm 11) tY (eCall (run (k + 21) 18) [] (aC (eV 5) (aC (eV 8) (aC (eV 6) aN)))) [11]) (aC (eLst (aC (eV 10) (aC (eV 10) aN))) aN)))))
  (sRet (eC (.bl false)))
  sNil)
  (sIf (tCm dNe (eF bRepr (aC (eTup (aC (eV 5) (aC (eV 8) aN))) aN)) (eV 9))
  (sRet (eC (.bl false)))
  sNil))))
theorem again_ok {k B wd : Nat} {vs : List Int} {s : Sta} {M : Mem} {x0 x1 x2 x3 x4 x7 x9 x10 x11 : Option D} (hv : Vals3 B vs) (h1 : s.ok 10) (h2 : s.tests ≤ 6) (h3 : s.words ≤ 10) (h4 : s.ops ≤ 20) (w1 : 1 ≤ wd) (w2 : wd ≤ 2000) :
    ∃ M', eLc (iR1 (eC (.int 2))) (.nm 11) tY (eCall (run (k + 21) 18) [] (aC (eV 5) (aC (eV 8) (aC (eV 6) aN)))) [11] [x0, x1, x2, x3, x4, some s.enc, some (.int wd), x7, some (encV vs), x9, x10, x11] M = .ok (.loc M.length) M' ∧ M'[M.length]? = some (.lst [.bl (s.so (tsoV vs wd)), .bl (s.so (tsoV vs wd))]) ∧ Kp N0 M M' := by
  have r2 : ∀ M, r1D (.int 2) M = .ok (.rng 0 2) M := fun M => x_r1 (n := 2) (by omega)
  obtain ⟨acc, M', e, h, g1, g2, g3⟩ := lc_gen (S := N0) (it := iR1 (eC (.int 2))) (v := .rng 0 2) (ds := rngL 0 2) (j := 11) (te := (eCall (run (k + 21) 18) [] (aC (eV 5) (aC (eV 8) (aC (eV 6) aN))))) (vs := [11]) (L := [x0, x1, x2, x3, x4, some s.enc, some (.int wd), x7, some (encV vs), x9, x10, x11]) (M := M) (M0 := M)
    (fun i acc M' => acc = List.replicate i (.bl (s.so (tsoV vs wd)))) (by simp only [bind_ok, bind_ex, outE_ok, outE_ex, retF_nx, retF_rt, retF_xc, x_optR, x_eV, x_eC, x_kB, x_eB, x_eU, x_eF, x_kM, x_eM, x_ift, x_iff, x_eIf, x_kTup, x_kLst, x_eTup, x_eLst, x_aN, x_kCc, x_kC, x_aC, x_tV, x_kCn, x_kCm, x_tCm, x_okB, x_tA, x_tO, x_kN, x_tN, x_tCh, x_kCj, x_kCi, x_kCh, x_eCh, x_kNb, x_kAn, x_kOr, x_kNo, x_eAnd, x_eOr, x_eNot, x_kCl, x_eCall, x_kS2, x_kS1, x_eSl, x_oN, x_asO, x_oS, x_mLoc, x_kML, x_eML, x_kM0, x_kMl0, x_eML0, x_truB, x_truI, x_asB, x_cnx, x_crt, x_cbk, x_cct, x_cxc, x_sSeq, x_sNil, x_sBrk, x_sCnt, x_kEx, x_kSet, x_sEx, x_sSet, x_okO, x_putsN, x_putsC, x_kPar, x_sPar, x_kRet, x_sRet, x_sRetN, x_sIf, x_kSb3, x_kSb2, x_kSb1, x_sSub, x_kAsg, x_sAsg, x_pnm, x_ptp, x_kFor, x_sFor, x_itT, x_iR1, x_kR2, x_iR2, x_iE, x_tY, x_wN, x_wC, List.getElem?_cons_zero, List.getElem?_cons_succ, List.set_cons_zero, List.set_cons_succ, List.append_nil, List.nil_append, List.cons_append, List.length_cons, List.length_nil, Nat.reduceLeDiff, Nat.reduceAdd, Bool.not_true, Bool.not_false, T_ok, x_kMt, x_sMt, x_mtN, x_mtC, x_sWh, true_or, true_and, and_true, if_true, if_false, r2]) Iw.rng rfl (by rw [rngL_len]; decide)
    (fun i acc M' d hd hl hP kk hc => by
      obtain ⟨M2, e2, k2⟩ := r_istrue (k + 5) (M := M') hv h1 h2 h3 h4 w1 w2
      refine ⟨.bl (s.so (tsoV vs wd)), M2, by simp only [bind_ok, bind_ex, outE_ok, outE_ex, retF_nx, retF_rt, retF_xc, x_optR, x_eV, x_eC, x_kB, x_eB, x_eU, x_eF, x_kM, x_eM, x_ift, x_iff, x_eIf, x_kTup, x_kLst, x_eTup, x_eLst, x_aN, x_kCc, x_kC, x_aC, x_tV, x_kCn, x_kCm, x_tCm, x_okB, x_tA, x_tO, x_kN, x_tN, x_tCh, x_kCj, x_kCi, x_kCh, x_eCh, x_kNb, x_kAn, x_kOr, x_kNo, x_eAnd, x_eOr, x_eNot, x_kCl, x_eCall, x_kS2, x_kS1, x_eSl, x_oN, x_asO, x_oS, x_mLoc, x_kML, x_eML, x_kM0, x_kMl0, x_eML0, x_truB, x_truI, x_asB, x_cnx, x_crt, x_cbk, x_cct, x_cxc, x_sSeq, x_sNil, x_sBrk, x_sCnt, x_kEx, x_kSet, x_sEx, x_sSet, x_okO, x_putsN, x_putsC, x_kPar, x_sPar, x_kRet, x_sRet, x_sRetN, x_sIf, x_kSb3, x_kSb2, x_kSb1, x_sSub, x_kAsg, x_sAsg, x_pnm, x_ptp, x_kFor, x_sFor, x_itT, x_iR1, x_kR2, x_iR2, x_iE, x_tY, x_wN, x_wC, List.getElem?_cons_zero, List.getElem?_cons_succ, List.set_cons_zero, List.set_cons_succ, List.append_nil, List.nil_append, List.cons_append, List.length_cons, List.length_nil, Nat.reduceLeDiff, Nat.reduceAdd, Bool.not_true, Bool.not_false, T_ok, x_kMt, x_sMt, x_mtN, x_mtC, x_sWh, true_or, true_and, and_true, if_true, if_false, e2], kk.trans k2, k2.at hc id, ?_⟩
      rw [hP, List.replicate_succ'])
  rw [rngL_len] at h
  subst h
  exact ⟨M', e, g2, g3⟩
theorem turn_ok {k t p wd : Nat} {s : Sta} {M : Mem} {x0 x1 x3 x4 x7 x8 x9 x10 x11 : Option D} (h : PenAt t p M) (ht : t + 20 < 1000000000) (h1 : s.ok 10) (h2 : s.tests ≤ 6) (h3 : s.words ≤ 10) (h4 : s.ops ≤ 20) (w1 : 1 ≤ wd) (w2 : wd ≤ 2000) :
    ∃ y8 y9 y10 M', TB k [x0, x1, some (.loc p), x3, x4, some s.enc, some (.int wd), x7, x8, x9, x10, x11] M = .ok (.nx, [x0, x1, some (.loc p), x3, x4, some s.enc, some (.int wd), x7, y8, y9, y10, x11]) M' ∧ PenAt (t + 10) p M' ∧ Kp (N1 p) M M' := by
  have hpl := h.lt
  obtain ⟨d, M1, m1, e1, c1, k1, _⟩ := r_pick (k + 19) (q := M.length) (M := M ++ [.lst [D.int wd, .int wd, .int 3]]) (h.kp (S := N0) (Kp.push _ _) id) (by omega) (push_at _ _) (by omega) (by simp) (by simp)
  obtain ⟨w, rfl, hw⟩ : ∃ w : Nat, d = .int w ∧ w ≤ 2003 := by
    simp only [List.mem_cons, List.not_mem_nil, or_false] at m1
    rcases m1 with rfl | rfl | rfl
    · exact ⟨wd, rfl, by omega⟩
    · exact ⟨wd, rfl, by omega⟩
    · exact ⟨3, rfl, by omega⟩
  obtain ⟨x, y, z, M2, e2, hx, hy, hz, c2, k2⟩ := r_nums (k + 18) (w := w) c1 (by omega) (by omega)
  have hvb : ∀ v ∈ [x, y, z], v.natAbs ≤ 2 ^ w := by
    intro v m
    simp only [List.mem_cons, List.not_mem_nil, or_false] at m
    rcases m with rfl | rfl | rfl <;> assumption
  have hv : Vals3 2010 [x, y, z] := ⟨rfl, fun v m => (Rg.of_abs (hvb v m)).mono (by omega), by decide, by decide⟩
  have e2' : run (k + 21) 30 [.loc p, .int w] M1 = .ok (encV [x, y, z]) M2 := e2
  generalize [x, y, z] = vs at e2' hv hvb
  obtain ⟨M3, e3, k3⟩ := r_so (k + 7) (M := M2) hv h1 h2 h3 w1 w2
  have ft : Fit 40 100000 (.tup [s.enc, encV vs]) := by
    have f1 := (Sta.fit h1).mono (k' := 39) (n' := 200 * 21 * 6 + 600) (by omega) (by
      have : 200 * (2 * 10 + 1) * s.tests ≤ 200 * (2 * 10 + 1) * 6 := Nat.mul_le_mul_left _ h2
      omega)
    have f2 : Fit 1 (3 * (4002 + 2) + 3) (encV vs) := Fit.tup (k := 0) (fun d m => by
      obtain ⟨u, mu, rfl⟩ := List.mem_map.mp m
      exact fit_i (hvb u mu) (by omega)) (by rw [List.length_map, hv.len]; exact Nat.le_refl _)
    exact (FitS.cons f1 (FitS.cons (f2.mono (k' := 39) (by decide) (Nat.le_refl _)) FitS.nil)).tup.mono (by decide) (by simp only [List.length_cons, List.length_nil]; omega)
  obtain ⟨st, hs⟩ := ft.repr (by decide) (by decide)
  obtain ⟨M4, e4, g4, k4⟩ := again_ok (k := k) (x0 := x0) (x1 := x1) (x2 := some (.loc p)) (x3 := x3) (x4 := x4) (x7 := x7) (x9 := some (.str st)) (x10 := some (.bl (s.so (tsoV vs wd)))) (x11 := x11) (M := M3) hv h1 h2 h3 h4 w1 w2
  obtain ⟨tx, htx⟩ := two_bl (s.so (tsoV vs wd))
  generalize s.so (tsoV vs wd) = b at e3 e4 g4 htx
  have a1 := htx (M4 ++ [.lst [.bl b, .bl b]]) M3.length ((Kp.push (S := N0) M4 _).at g4 id)
  have a2 := htx (M4 ++ [.lst [.bl b, .bl b]]) M4.length (push_at _ _)
  have e5 := r_same (k + 20) a1 a2
  have kA : Kp N0 M2 (M4 ++ [.lst [.bl b, .bl b]]) := (k3.trans k4).trans (Kp.push _ _)
  refine ⟨some (encV vs), some (.str st), some (.bl b), M4 ++ [.lst [.bl b, .bl b]], ?_, ((c2.kp (S := N0) kA id)).mono (by omega), (((Kp.push M _).trans k1).trans k2).trans kA.of0⟩
  simp only [TB, bind_ok, bind_ex, outE_ok, outE_ex, retF_nx, retF_rt, retF_xc, x_optR, x_eV, x_eC, x_kB, x_eB, x_eU, x_eF, x_kM, x_eM, x_ift, x_iff, x_eIf, x_kTup, x_kLst, x_eTup, x_eLst, x_aN, x_kCc, x_kC, x_aC, x_tV, x_kCn, x_kCm, x_tCm, x_okB, x_tA, x_tO, x_kN, x_tN, x_tCh, x_kCj, x_kCi, x_kCh, x_eCh, x_kNb, x_kAn, x_kOr, x_kNo, x_eAnd, x_eOr, x_eNot, x_kCl, x_eCall, x_kS2, x_kS1, x_eSl, x_oN, x_asO, x_oS, x_mLoc, x_kML, x_eML, x_kM0, x_kMl0, x_eML0, x_truB, x_truI, x_asB, x_cnx, x_crt, x_cbk, x_cct, x_cxc, x_sSeq, x_sNil, x_sBrk, x_sCnt, x_kEx, x_kSet, x_sEx, x_sSet, x_okO, x_putsN, x_putsC, x_kPar, x_sPar, x_kRet, x_sRet, x_sRetN, x_sIf, x_kSb3, x_kSb2, x_kSb1, x_sSub, x_kAsg, x_sAsg, x_pnm, x_ptp, x_kFor, x_sFor, x_itT, x_iR1, x_kR2, x_iR2, x_iE, x_tY, x_wN, x_wC, List.getElem?_cons_zero, List.getElem?_cons_succ, List.set_cons_zero, List.set_cons_succ, List.append_nil, List.nil_append, List.cons_append, List.length_cons, List.length_nil, Nat.reduceLeDiff, Nat.reduceAdd, Bool.not_true, Bool.not_false, T_ok, x_kMt, x_sMt, x_mtN, x_mtC, x_sWh, true_or, true_and, and_true, if_true, if_false, e1, e2', hs, e3, e4, e5, beq_self_eq_true, ne_str, bne_self_eq_false]
abbrev LB (k : Nat) : LS := (sSeq (sSet 4 (eCall (run (k + 21) 22) [] (aC (eV 2) (aC (eLst (aC (eC (.str "equal")) (aC (eC (.str "below")) (aC (eC (.str "less")) aN)))) aN))))
  (sSeq (sSet 5 (eCall (run (k + 21) 22) [] (aC (eV 2) (aC (eLst (aC (eTup (aC (eV 4) (aC (eCall (run (k + 21) 26) [] (aC (eV 2) (aC (eC (.int 6)) aN))) (aC (eCall (run (k + 21) 26) [] (aC (eV 2) (aC (eC (.int 4)) aN))) aN)))) (aC (eCall (run (k + 21) 38) [] (aC (eV 2) (aC (eC (.int 3)) aN))) aN))) aN))))
  (sSeq (sSet 6 (eCall (run (k + 21) 22) [] (aC (eV 2) (aC (eLst (aC (eC (.int 1)) (aC (eC (.int 2)) (aC (eC (.int 3)) (aC (eC (.int 4)) (aC (eC (.int 7)) (aC (eC (.int 33)) (aC (eC (.int 64)) (aC (eC (.int 500)) (aC (eC (.int 2000)) aN)))))))))) aN))))
  (sFor (iR1 (eC (.int 3))) (.nm 7) (TB k)))))
theorem lap_ok {k t p : Nat} {M : Mem} {x0 x1 x3 x4 x5 x6 x7 x8 x9 x10 x11 : Option D} (h : PenAt t p M) (ht : t + 20000 < 1000000000) :
    ∃ y4 y5 y6 y7 y8 y9 y10 M', LB k [x0, x1, some (.loc p), x3, x4, x5, x6, x7, x8, x9, x10, x11] M = .ok (.nx, [x0, x1, some (.loc p), x3, y4, y5, y6, y7, y8, y9, y10, x11]) M' ∧ PenAt (t + 5000) p M' ∧ Kp (N1 p) M M' := by
  have hpl := h.lt
  obtain ⟨d, M1, m1, e1, c1, k1, _⟩ := r_pick (k + 19) (q := M.length) (M := M ++ [.lst [D.str "equal", .str "below", .str "less"]]) (h.kp (S := N0) (Kp.push _ _) id) (by omega) (push_at _ _) (by omega) (by simp) (by simp)
  obtain ⟨w, rfl⟩ : ∃ w : Tw, d = .str w.word := by
    simp only [List.mem_cons, List.not_mem_nil, or_false] at m1
    rcases m1 with rfl | rfl | rfl
    · exact ⟨.eq, rfl⟩
    · exact ⟨.bel, rfl⟩
    · exact ⟨.les, rfl⟩
  obtain ⟨a, M2, e2, o2, p2, c2, k2⟩ := r_any (k := k + 6) (m := 6) (by decide) c1 (by omega)
  obtain ⟨b, M3, e3, o3, p3, c3, k3⟩ := r_any (k := k + 6) (m := 4) (by decide) c2 (by omega)
  obtain ⟨s, M4, e4, o4, t4, w4, p4, c4, k4⟩ := r_stated (k + 1) c3 (by omega)
  have hl4 := c4.lt
  obtain ⟨d, M5, m5, e5, c5, k5, _⟩ := r_pick (k + 19) (q := M4.length) (M := M4 ++ [.lst [(Sta.tst w a b).enc, s.enc]]) (c4.kp (S := N0) (Kp.push _ _) id) (by omega) (push_at _ _) (by omega) (by simp) (by simp)
  obtain ⟨s', rfl, o5, t5, w5, p5⟩ : ∃ s' : Sta, d = s'.enc ∧ s'.ok 10 ∧ s'.tests ≤ 6 ∧ s'.words ≤ 10 ∧ s'.ops ≤ 20 := by
    simp only [List.mem_cons, List.not_mem_nil, or_false] at m5
    rcases m5 with rfl | rfl
    · exact ⟨.tst w a b, rfl, ⟨⟨o2, by omega⟩, o3, by omega⟩, by simp [Sta.tests], by simp [Sta.words], by simp only [Sta.ops]; omega⟩
    · exact ⟨s, rfl, Sta.ok_mono (by decide) o4, by omega, by omega, by omega⟩
  have hl5 := c5.lt
  obtain ⟨d, M6, m6, e6, c6, k6, _⟩ := r_pick (k + 19) (q := M5.length) (M := M5 ++ [.lst [D.int 1, .int 2, .int 3, .int 4, .int 7, .int 33, .int 64, .int 500, .int 2000]]) (c5.kp (S := N0) (Kp.push _ _) id) (by omega) (push_at _ _) (by omega) (by simp) (by simp)
  obtain ⟨wd, rfl, w1, w2⟩ : ∃ wd : Nat, d = .int wd ∧ 1 ≤ wd ∧ wd ≤ 2000 := by
    simp only [List.mem_cons, List.not_mem_nil, or_false] at m6
    rcases m6 with rfl | rfl | rfl | rfl | rfl | rfl | rfl | rfl | rfl
    · exact ⟨1, rfl, by omega, by omega⟩
    · exact ⟨2, rfl, by omega, by omega⟩
    · exact ⟨3, rfl, by omega, by omega⟩
    · exact ⟨4, rfl, by omega, by omega⟩
    · exact ⟨7, rfl, by omega, by omega⟩
    · exact ⟨33, rfl, by omega, by omega⟩
    · exact ⟨64, rfl, by omega, by omega⟩
    · exact ⟨500, rfl, by omega, by omega⟩
    · exact ⟨2000, rfl, by omega, by omega⟩
  have r3 : ∀ M, r1D (.int 3) M = .ok (.rng 0 3) M := fun M => x_r1 (n := 3) (by omega)
  obtain ⟨L', M', e, ⟨y7, y8, y9, y10, hL⟩, hM, hK⟩ := for_T (v := .rng 0 3) (j := 7) (b := TB k) (n := 3) (L := [x0, x1, some (.loc p), x3, some (.str w.word), some s'.enc, some (.int wd), x7, x8, x9, x10, x11]) (M := M6)
    (fun i L M' => (∃ y7 y8 y9 y10, L = [x0, x1, some (.loc p), x3, some (.str w.word), some s'.enc, some (.int wd), y7, y8, y9, y10, x11]) ∧ PenAt (t + 4000 + i * 10) p M' ∧ Kp (N1 p) M M')
    ⟨⟨_, _, _, _, rfl⟩, c6.mono (by omega), ((((((((Kp.push M _).trans k1).trans k2).trans k3).trans k4).trans (Kp.push _ _)).trans k5).trans (Kp.push _ _)).trans k6⟩
    (fun i L M' hi ⟨⟨y7, y8, y9, y10, hL⟩, g1, g2⟩ => by
      subst hL
      refine ⟨_, rng_at hi, ?_⟩
      obtain ⟨z8, z9, z10, M7, e7, c7, k7⟩ := turn_ok (k := k) (x0 := x0) (x1 := x1) (x3 := x3) (x4 := some (.str w.word)) (x7 := some (.int (0 + (i : Nat)))) (x8 := y8) (x9 := y9) (x10 := y10) (x11 := x11) g1 (by omega) o5 t5 w5 p5 w1 w2
      show G.T (TB k [x0, x1, some (.loc p), x3, some (.str w.word), some s'.enc, some (.int wd), some (.int (0 + (i : Nat))), y8, y9, y10, x11] M') _
      rw [e7]
      exact ⟨.inl rfl, ⟨_, _, _, _, rfl⟩, c7.mono (by omega), g2.trans k7⟩)
    (fun _ _ _ => rng_end)
  subst hL
  refine ⟨some (.str w.word), some s'.enc, some (.int wd), y7, y8, y9, y10, M', ?_, hM.mono (by omega), hK⟩
  have e2' : run (k + 21) 26 [.loc p, .int 6] M1 = .ok a.enc M2 := e2
  have e3' : run (k + 21) 26 [.loc p, .int 4] M2 = .ok b.enc M3 := e3
  have e4' : run (k + 21) 38 [.loc p, .int 3] M3 = .ok s.enc M4 := e4
  simp only [Sta.enc] at e5
  simp only [Nat.reduceAdd] at e
  simp only [LB, bind_ok, bind_ex, outE_ok, outE_ex, retF_nx, retF_rt, retF_xc, x_optR, x_eV, x_eC, x_kB, x_eB, x_eU, x_eF, x_kM, x_eM, x_ift, x_iff, x_eIf, x_kTup, x_kLst, x_eTup, x_eLst, x_aN, x_kCc, x_kC, x_aC, x_tV, x_kCn, x_kCm, x_tCm, x_okB, x_tA, x_tO, x_kN, x_tN, x_tCh, x_kCj, x_kCi, x_kCh, x_eCh, x_kNb, x_kAn, x_kOr, x_kNo, x_eAnd, x_eOr, x_eNot, x_kCl, x_eCall, x_kS2, x_kS1, x_eSl, x_oN, x_asO, x_oS, x_mLoc, x_kML, x_eML, x_kM0, x_kMl0, x_eML0, x_truB, x_truI, x_asB, x_cnx, x_crt, x_cbk, x_cct, x_cxc, x_sSeq, x_sNil, x_sBrk, x_sCnt, x_kEx, x_kSet, x_sEx, x_sSet, x_okO, x_putsN, x_putsC, x_kPar, x_sPar, x_kRet, x_sRet, x_sRetN, x_sIf, x_kSb3, x_kSb2, x_kSb1, x_sSub, x_kAsg, x_sAsg, x_pnm, x_ptp, x_kFor, x_sFor, x_itT, x_iR1, x_kR2, x_iR2, x_iE, x_tY, x_wN, x_wC, List.getElem?_cons_zero, List.getElem?_cons_succ, List.set_cons_zero, List.set_cons_succ, List.append_nil, List.nil_append, List.cons_append, List.length_cons, List.length_nil, Nat.reduceLeDiff, Nat.reduceAdd, Bool.not_true, Bool.not_false, T_ok, x_kMt, x_sMt, x_mtN, x_mtC, x_sWh, true_or, true_and, and_true, if_true, if_false, e1, e2', e3', e4', e5, e6, r3, IV.size]
  exact e
theorem good (ns : List Int) (hl : ns.length ≤ 63) : ∃ M', run 60 i_law [.loc 0] [.rol (ns.map D.int)] = .ok (.bl true) M' := by
  show ∃ M', run (38 + 22) 39 [.loc 0] [.rol (ns.map D.int)] = .ok (.bl true) M'
  generalize 38 = k
  have h0 : [O.rol (ns.map D.int)][0]? = some (.rol (ns.map D.int)) := rfl
  generalize [O.rol (ns.map D.int)] = M at h0
  obtain ⟨n, hn, en⟩ := cells_n ns.length 3 (by decide) (by decide)
  obtain ⟨L', M', e, ⟨y1, y2, y3, y4, y5, y6, y7, y8, y9, y10, y11, hL⟩, hM⟩ := for_T (v := .rng 0 n) (j := 1) (b := (sSeq (sSet 2 (eCall (run (k + 21) 20) [] (aC (eCall (run (k + 21) 19) [] (aC (eV 0) (aC (eV 1) aN))) aN)))
  (sFor (iR1 (eC (.int 14))) (.nm 3) (LB k)))) (n := n) (L := [some (.loc 0), none, none, none, none, none, none, none, none, none, none, none]) (M := M)
    (fun i L M' => (∃ y1 y2 y3 y4 y5 y6 y7 y8 y9 y10 y11, L = [some (.loc 0), y1, y2, y3, y4, y5, y6, y7, y8, y9, y10, y11]) ∧ M'[0]? = some (.rol (ns.map D.int)))
    ⟨⟨_, _, _, _, _, _, _, _, _, _, _, rfl⟩, h0⟩
    (fun i L M' hi ⟨⟨y1, y2, y3, y4, y5, y6, y7, y8, y9, y10, y11, hL⟩, hM⟩ => by
      subst hL
      refine ⟨_, rng_at hi, ?_⟩
      have z : (0 : Int) + (i : Nat) = (i : Nat) := by omega
      rw [z]
      obtain ⟨v, e1⟩ : ∃ v : Int, run (k + 21) 19 [.loc 0, .int (i : Nat)] M' = .ok (.int v) M' := r_cell (k + 20) hM
      obtain ⟨a, b, c, e2, hp⟩ := r_pen (k + 20) (M := M') (v := v)
      have r2 : ∀ M, r1D (.int 14) M = .ok (.rng 0 14) M := fun M => x_r1 (n := 14) (by omega)
      have h0l := mem_lt hM
      obtain ⟨L'', M'', e, ⟨z3, z4, z5, z6, z7, z8, z9, z10, hL⟩, hM2, _⟩ := for_T (v := .rng 0 14) (j := 3) (b := LB k) (n := 14) (L := [some (.loc 0), some (.int i), some (.loc M'.length), y3, y4, y5, y6, y7, y8, y9, y10, y11]) (M := M' ++ [.lst [.int a, .int b, .int c]])
        (fun lap L M3 => (∃ z3 z4 z5 z6 z7 z8 z9 z10, L = [some (.loc 0), some (.int i), some (.loc M'.length), z3, z4, z5, z6, z7, z8, z9, z10, y11]) ∧ M3[0]? = some (.rol (ns.map D.int)) ∧ PenAt (lap * 5000) M'.length M3)
        ⟨⟨_, _, _, _, _, _, _, _, rfl⟩, by rw [List.getElem?_append_left h0l]; exact hM, by rw [Nat.zero_mul]; exact hp⟩
        (fun lap L M3 hlap ⟨⟨z3, z4, z5, z6, z7, z8, z9, z10, hL⟩, g1, g2⟩ => by
          subst hL
          refine ⟨_, rng_at hlap, ?_⟩
          obtain ⟨w4, w5, w6, w7, w8, w9, w10, M5, e3, g4, k5⟩ := lap_ok (k := k) (x0 := some (.loc 0)) (x1 := some (.int i)) (x3 := some (.int (0 + (lap : Nat)))) (x4 := z4) (x5 := z5) (x6 := z6) (x7 := z7) (x8 := z8) (x9 := z9) (x10 := z10) (x11 := y11) g2 (by omega)
          show G.T (LB k [some (.loc 0), some (.int i), some (.loc M'.length), some (.int (0 + (lap : Nat))), z4, z5, z6, z7, z8, z9, z10, y11] M3) _
          rw [e3]
          refine ⟨.inl rfl, ⟨_, _, _, _, _, _, _, _, rfl⟩, k5.at g1 (by show ¬ 0 = M'.length; omega), g4.mono (by omega)⟩)
        (fun _ _ _ => rng_end)
      simp only [Nat.reduceAdd] at e
      simp only [bind_ok, bind_ex, outE_ok, outE_ex, retF_nx, retF_rt, retF_xc, x_optR, x_eV, x_eC, x_kB, x_eB, x_eU, x_eF, x_kM, x_eM, x_ift, x_iff, x_eIf, x_kTup, x_kLst, x_eTup, x_eLst, x_aN, x_kCc, x_kC, x_aC, x_tV, x_kCn, x_kCm, x_tCm, x_okB, x_tA, x_tO, x_kN, x_tN, x_tCh, x_kCj, x_kCi, x_kCh, x_eCh, x_kNb, x_kAn, x_kOr, x_kNo, x_eAnd, x_eOr, x_eNot, x_kCl, x_eCall, x_kS2, x_kS1, x_eSl, x_oN, x_asO, x_oS, x_mLoc, x_kML, x_eML, x_kM0, x_kMl0, x_eML0, x_truB, x_truI, x_asB, x_cnx, x_crt, x_cbk, x_cct, x_cxc, x_sSeq, x_sNil, x_sBrk, x_sCnt, x_kEx, x_kSet, x_sEx, x_sSet, x_okO, x_putsN, x_putsC, x_kPar, x_sPar, x_kRet, x_sRet, x_sRetN, x_sIf, x_kSb3, x_kSb2, x_kSb1, x_sSub, x_kAsg, x_sAsg, x_pnm, x_ptp, x_kFor, x_sFor, x_itT, x_iR1, x_kR2, x_iR2, x_iE, x_tY, x_wN, x_wC, List.getElem?_cons_zero, List.getElem?_cons_succ, List.set_cons_zero, List.set_cons_succ, List.append_nil, List.nil_append, List.cons_append, List.length_cons, List.length_nil, Nat.reduceLeDiff, Nat.reduceAdd, Bool.not_true, Bool.not_false, T_ok, x_kMt, x_sMt, x_mtN, x_mtC, x_sWh, true_or, true_and, and_true, if_true, if_false, e1, e2, r2, IV.size, e, hL]
      exact ⟨⟨_, _, _, _, _, _, _, _, _, _, _, rfl⟩, hM2⟩)
    (fun _ _ _ => rng_end)
  subst hL
  refine ⟨M', ?_⟩
  rw [in_law]
  simp only [B_law, bind_ok, bind_ex, outE_ok, outE_ex, retF_nx, retF_rt, retF_xc, x_optR, x_eV, x_eC, x_kB, x_eB, x_eU, x_eF, x_kM, x_eM, x_ift, x_iff, x_eIf, x_kTup, x_kLst, x_eTup, x_eLst, x_aN, x_kCc, x_kC, x_aC, x_tV, x_kCn, x_kCm, x_tCm, x_okB, x_tA, x_tO, x_kN, x_tN, x_tCh, x_kCj, x_kCi, x_kCh, x_eCh, x_kNb, x_kAn, x_kOr, x_kNo, x_eAnd, x_eOr, x_eNot, x_kCl, x_eCall, x_kS2, x_kS1, x_eSl, x_oN, x_asO, x_oS, x_mLoc, x_kML, x_eML, x_kM0, x_kMl0, x_eML0, x_truB, x_truI, x_asB, x_cnx, x_crt, x_cbk, x_cct, x_cxc, x_sSeq, x_sNil, x_sBrk, x_sCnt, x_kEx, x_kSet, x_sEx, x_sSet, x_okO, x_putsN, x_putsC, x_kPar, x_sPar, x_kRet, x_sRet, x_sRetN, x_sIf, x_kSb3, x_kSb2, x_kSb1, x_sSub, x_kAsg, x_sAsg, x_pnm, x_ptp, x_kFor, x_sFor, x_itT, x_iR1, x_kR2, x_iR2, x_iE, x_tY, x_wN, x_wC, List.getElem?_cons_zero, List.getElem?_cons_succ, List.set_cons_zero, List.set_cons_succ, List.append_nil, List.nil_append, List.cons_append, List.length_cons, List.length_nil, Nat.reduceLeDiff, Nat.reduceAdd, Bool.not_true, Bool.not_false, T_ok, x_kMt, x_sMt, x_mtN, x_mtC, x_sWh, true_or, true_and, and_true, if_true, if_false, len_atR h0, List.length_map, bMin, bMax, en, x_r1 (n := n) (by omega)]
  simp only [bind_ok, bind_ex, outE_ok, outE_ex, retF_nx, retF_rt, retF_xc, x_optR, x_eV, x_eC, x_kB, x_eB, x_eU, x_eF, x_kM, x_eM, x_ift, x_iff, x_eIf, x_kTup, x_kLst, x_eTup, x_eLst, x_aN, x_kCc, x_kC, x_aC, x_tV, x_kCn, x_kCm, x_tCm, x_okB, x_tA, x_tO, x_kN, x_tN, x_tCh, x_kCj, x_kCi, x_kCh, x_eCh, x_kNb, x_kAn, x_kOr, x_kNo, x_eAnd, x_eOr, x_eNot, x_kCl, x_eCall, x_kS2, x_kS1, x_eSl, x_oN, x_asO, x_oS, x_mLoc, x_kML, x_eML, x_kM0, x_kMl0, x_eML0, x_truB, x_truI, x_asB, x_cnx, x_crt, x_cbk, x_cct, x_cxc, x_sSeq, x_sNil, x_sBrk, x_sCnt, x_kEx, x_kSet, x_sEx, x_sSet, x_okO, x_putsN, x_putsC, x_kPar, x_sPar, x_kRet, x_sRet, x_sRetN, x_sIf, x_kSb3, x_kSb2, x_kSb1, x_sSub, x_kAsg, x_sAsg, x_pnm, x_ptp, x_kFor, x_sFor, x_itT, x_iR1, x_kR2, x_iR2, x_iE, x_tY, x_wN, x_wC, List.getElem?_cons_zero, List.getElem?_cons_succ, List.set_cons_zero, List.set_cons_succ, List.append_nil, List.nil_append, List.cons_append, List.length_cons, List.length_nil, Nat.reduceLeDiff, Nat.reduceAdd, Bool.not_true, Bool.not_false, T_ok, x_kMt, x_sMt, x_mtN, x_mtC, x_sWh, true_or, true_and, and_true, if_true, if_false, IV.size, e]
end Lw

open PySem PySem.W PyProof.Rows in
set_option maxRecDepth 100000 in
set_option maxHeartbeats 0 in
theorem PySem.Challenge.cw_anywidth_k21_truths_of_values_holds : PySem.Challenge.rw_anywidth_k21_truths_of_values.Holds := by
  w_on; o_law; k_head; (case hw => w_witness2)
  k_fill
  refine G.walk_go (tb := Lw.tab0) rfl (l := PySem.Challenge.rw_anywidth_k21_truths_of_values) (k := 60) (fn := Lw.run 60 Lw.i_law) (x := "_law_script") rfl (by decide) rfl ⟨rfl, by decide, by decide⟩ (fun w h Y => PySem.W.kIn_of Y) ?F (fun ns hl => Lw.good ns hl)
  case F =>
    intro w mg fa h KX G hmg
    refine' Lw.top_mk KX G hmg ?a0 ?l0 ?c0 ?k0 ?a1 ?l1 ?c1 ?k1 ?a2 ?l2 ?c2 ?k2 ?a3 ?l3 ?c3 ?k3 ?a4 ?l4 ?c4 ?k4 ?a5 ?l5 ?c5 ?k5 ?a6 ?l6 ?c6 ?k6 ?a7 ?l7 ?c7 ?k7 ?t7 ?u7 ?v7 ?a8 ?l8 ?c8 ?k8 ?t8 ?u8 ?v8 ?a9 ?l9 ?c9 ?k9 ?a10 ?l10 ?c10 ?k10 ?a11 ?l11 ?c11 ?k11 ?a12 ?l12 ?c12 ?k12 ?a13 ?l13 ?c13 ?k13 ?a14 ?l14 ?c14 ?k14 ?a15 ?l15 ?c15 ?k15 ?a16 ?l16 ?c16 ?k16 ?a17 ?l17 ?c17 ?k17 ?a18 ?l18 ?c18 ?k18 ?a19 ?l19 ?c19 ?k19 ?a20 ?l20 ?c20 ?k20 ?a21 ?l21 ?c21 ?k21 ?a22 ?l22 ?c22 ?k22 ?a23 ?l23 ?c23 ?k23 ?a24 ?l24 ?c24 ?k24 ?a25 ?l25 ?c25 ?k25 ?a26 ?l26 ?c26 ?k26 ?a27 ?l27 ?c27 ?k27 ?a28 ?l28 ?c28 ?k28 ?a29 ?l29 ?c29 ?k29 ?a30 ?l30 ?c30 ?k30 ?a31 ?l31 ?c31 ?k31 ?a32 ?l32 ?c32 ?k32 ?a33 ?l33 ?c33 ?k33 ?a34 ?l34 ?c34 ?k34 ?a35 ?l35 ?c35 ?k35 ?a36 ?l36 ?c36 ?k36 ?a37 ?l37 ?c37 ?k37 ?a38 ?l38 ?c38 ?k38 ?a39 ?l39 ?c39 ?k39 ?g_BOTH ?r_BOTH ?g_EITHER ?r_EITHER ?g_GREATEST_NUMBER ?r_GREATEST_NUMBER ?g_LEAVES ?h_LEAVES ?i_LEAVES ?j_LEAVES ?q_LEAVES ?g_MOST_IN_ALL ?r_MOST_IN_ALL ?g_MOST_OPERATIONS ?r_MOST_OPERATIONS ?g_MOST_SHIFT ?r_MOST_SHIFT ?g_MOST_TESTS ?r_MOST_TESTS ?g_MOST_TIMES ?r_MOST_TIMES ?g_MOST_WORDS ?r_MOST_WORDS ?g_NEITHER ?r_NEITHER ?g_PAIRED ?h_PAIRED ?i_PAIRED ?j_PAIRED ?q_PAIRED ?g_TESTS ?h_TESTS ?i_TESTS ?j_TESTS ?q_TESTS ?g_VARIABLES ?r_VARIABLES ?z_all ?z_bool ?z_int ?z_isinstance ?z_len ?z_list ?z_max ?z_min ?z_range ?z_repr ?z_str ?z_sum ?z_tuple
    (case a0 => k_is)
    (case l0 => k_is)
    (case c0 => k_is)
    (case k0 => k_is)
    (case a1 => k_is)
    (case l1 => k_is)
    (case c1 => k_is)
    (case k1 => k_is)
    (case a2 => k_is)
    (case l2 => k_is)
    (case c2 => k_is)
    (case k2 => k_is)
    (case a3 => k_is)
    (case l3 => k_is)
    (case c3 => k_is)
    (case k3 => k_is)
    (case a4 => k_is)
    (case l4 => k_is)
    (case c4 => k_is)
    (case k4 => k_is)
    (case a5 => k_is)
    (case l5 => k_is)
    (case c5 => k_is)
    (case k5 => k_is)
    (case a6 => k_is)
    (case l6 => k_is)
    (case c6 => k_is)
    (case k6 => k_is)
    (case a7 => k_is)
    (case l7 => k_is)
    (case c7 => k_is)
    (case k7 => k_is)
    (case t7 => k_is)
    (case u7 => rfl)
    (case v7 => exact (.cons ⟨_, rfl⟩ .nil))
    (case a8 => k_is)
    (case l8 => k_is)
    (case c8 => k_is)
    (case k8 => k_is)
    (case t8 => k_is)
    (case u8 => rfl)
    (case v8 => exact (.cons ⟨_, rfl⟩ .nil))
    (case a9 => k_is)
    (case l9 => k_is)
    (case c9 => k_is)
    (case k9 => k_is)
    (case a10 => k_is)
    (case l10 => k_is)
    (case c10 => k_is)
    (case k10 => k_is)
    (case a11 => k_is)
    (case l11 => k_is)
    (case c11 => k_is)
    (case k11 => k_is)
    (case a12 => k_is)
    (case l12 => k_is)
    (case c12 => k_is)
    (case k12 => k_is)
    (case a13 => k_is)
    (case l13 => k_is)
    (case c13 => k_is)
    (case k13 => k_is)
    (case a14 => k_is)
    (case l14 => k_is)
    (case c14 => k_is)
    (case k14 => k_is)
    (case a15 => k_is)
    (case l15 => k_is)
    (case c15 => k_is)
    (case k15 => k_is)
    (case a16 => k_is)
    (case l16 => k_is)
    (case c16 => k_is)
    (case k16 => k_is)
    (case a17 => k_is)
    (case l17 => k_is)
    (case c17 => k_is)
    (case k17 => k_is)
    (case a18 => k_is)
    (case l18 => k_is)
    (case c18 => k_is)
    (case k18 => k_is)
    (case a19 => k_is)
    (case l19 => k_is)
    (case c19 => k_is)
    (case k19 => k_is)
    (case a20 => k_is)
    (case l20 => k_is)
    (case c20 => k_is)
    (case k20 => k_is)
    (case a21 => k_is)
    (case l21 => k_is)
    (case c21 => k_is)
    (case k21 => k_is)
    (case a22 => k_is)
    (case l22 => k_is)
    (case c22 => k_is)
    (case k22 => k_is)
    (case a23 => k_is)
    (case l23 => k_is)
    (case c23 => k_is)
    (case k23 => k_is)
    (case a24 => k_is)
    (case l24 => k_is)
    (case c24 => k_is)
    (case k24 => k_is)
    (case a25 => k_is)
    (case l25 => k_is)
    (case c25 => k_is)
    (case k25 => k_is)
    (case a26 => k_is)
    (case l26 => k_is)
    (case c26 => k_is)
    (case k26 => k_is)
    (case a27 => k_is)
    (case l27 => k_is)
    (case c27 => k_is)
    (case k27 => k_is)
    (case a28 => k_is)
    (case l28 => k_is)
    (case c28 => k_is)
    (case k28 => k_is)
    (case a29 => k_is)
    (case l29 => k_is)
    (case c29 => k_is)
    (case k29 => k_is)
    (case a30 => k_is)
    (case l30 => k_is)
    (case c30 => k_is)
    (case k30 => k_is)
    (case a31 => k_is)
    (case l31 => k_is)
    (case c31 => k_is)
    (case k31 => k_is)
    (case a32 => k_is)
    (case l32 => k_is)
    (case c32 => k_is)
    (case k32 => k_is)
    (case a33 => k_is)
    (case l33 => k_is)
    (case c33 => k_is)
    (case k33 => k_is)
    (case a34 => k_is)
    (case l34 => k_is)
    (case c34 => k_is)
    (case k34 => k_is)
    (case a35 => k_is)
    (case l35 => k_is)
    (case c35 => k_is)
    (case k35 => k_is)
    (case a36 => k_is)
    (case l36 => k_is)
    (case c36 => k_is)
    (case k36 => k_is)
    (case a37 => k_is)
    (case l37 => k_is)
    (case c37 => k_is)
    (case k37 => k_is)
    (case a38 => k_is)
    (case l38 => k_is)
    (case c38 => k_is)
    (case k38 => k_is)
    (case a39 => k_is)
    (case l39 => k_is)
    (case c39 => k_is)
    (case k39 => k_is)
    (case g_BOTH => k_is)
    (case r_BOTH => first | exact ⟨_, rfl⟩ | rfl)
    (case g_EITHER => k_is)
    (case r_EITHER => first | exact ⟨_, rfl⟩ | rfl)
    (case g_GREATEST_NUMBER => k_is)
    (case r_GREATEST_NUMBER => first | exact ⟨_, rfl⟩ | rfl)
    (case g_LEAVES => k_is)
    (case h_LEAVES => k_is)
    (case i_LEAVES => rfl)
    (case j_LEAVES => rfl)
    (case q_LEAVES => exact (.cons ⟨_, rfl⟩ (.cons ⟨_, rfl⟩ .nil)))
    (case g_MOST_IN_ALL => k_is)
    (case r_MOST_IN_ALL => first | exact ⟨_, rfl⟩ | rfl)
    (case g_MOST_OPERATIONS => k_is)
    (case r_MOST_OPERATIONS => first | exact ⟨_, rfl⟩ | rfl)
    (case g_MOST_SHIFT => k_is)
    (case r_MOST_SHIFT => first | exact ⟨_, rfl⟩ | rfl)
    (case g_MOST_TESTS => k_is)
    (case r_MOST_TESTS => first | exact ⟨_, rfl⟩ | rfl)
    (case g_MOST_TIMES => k_is)
    (case r_MOST_TIMES => first | exact ⟨_, rfl⟩ | rfl)
    (case g_MOST_WORDS => k_is)
    (case r_MOST_WORDS => first | exact ⟨_, rfl⟩ | rfl)
    (case g_NEITHER => k_is)
    (case r_NEITHER => first | exact ⟨_, rfl⟩ | rfl)
    (case g_PAIRED => k_is)
    (case h_PAIRED => k_is)
    (case i_PAIRED => rfl)
    (case j_PAIRED => rfl)
    (case q_PAIRED => exact (.cons ⟨_, rfl⟩ (.cons ⟨_, rfl⟩ (.cons ⟨_, rfl⟩ (.cons ⟨_, rfl⟩ (.cons ⟨_, rfl⟩ .nil))))))
    (case g_TESTS => k_is)
    (case h_TESTS => k_is)
    (case i_TESTS => rfl)
    (case j_TESTS => rfl)
    (case q_TESTS => exact (.cons ⟨_, rfl⟩ (.cons ⟨_, rfl⟩ (.cons ⟨_, rfl⟩ .nil))))
    (case g_VARIABLES => k_is)
    (case r_VARIABLES => first | exact ⟨_, rfl⟩ | rfl)
    (case z_all => k_is)
    (case z_bool => k_is)
    (case z_int => k_is)
    (case z_isinstance => k_is)
    (case z_len => k_is)
    (case z_list => k_is)
    (case z_max => k_is)
    (case z_min => k_is)
    (case z_range => k_is)
    (case z_repr => k_is)
    (case z_str => k_is)
    (case z_sum => k_is)
    (case z_tuple => k_is)
