import PyProof.Rows.All
import Wide.All
import OpenK.AllK
import Wide.FinOn
import HandS.ForMost
import HandS.ForExc
import HandS.Flow
import HandS.Deep
import HandS.Zip
import HandS.IsInst
import HandS.SortInts
import HandS.More
import HandS.NoneIn
import HandS.Conv
import HandS.Walk
import HandS.Defaults
import HandS.HeadHook1
import HandS.ExcIs
import HandS.ReplaceLit
import HandS.SetFor
import KE.KStateDown
import Lean
import HandS.Head0
import HandS.Head1
import HandS.Head2
import HandS.HeadEnd
import HandS.HeadHook2
import HandS.HeadHook3
import HandS.HeadHook4
import PySem.Challenge.RW_castshelf_k03_paths
import KE.DataFind
import HandS.Replace
import HandS.HotCalls
import KE.DataEq
import HandS.List
import HandS.TupAny
set_option Elab.async false
set_option linter.all false
set_option maxRecDepth 100000
set_option maxHeartbeats 4000000
namespace Cs
open PySem L2

/-! ### data -/
inductive D where
  | non
  | bl (b : Bool)
  | int (i : Int)
  | str (x : Str)
  | obj (a : Addr)
  | tup (xs : List D)
  | lst (xs : List D)

mutual
def Is (H : Hp) : D → V → Prop
  | .non, v => v = .non
  | .bl b, v => v = .bl b
  | .int i, v => v = .int i
  | .str x, v => v = .str x
  | .obj a, v => v = .ref a
  | .tup ds, v => ∃ a vs, v = .ref a ∧ H a = some (.tup vs) ∧ IsL H ds vs
  | .lst ds, v => ∃ a vs, v = .ref a ∧ H a = some (.lst vs) ∧ IsL H ds vs
def IsL (H : Hp) : List D → List V → Prop
  | [], vs => vs = []
  | d :: ds, vs => ∃ v r, vs = v :: r ∧ Is H d v ∧ IsL H ds r
end

/-- all that stood stands -/
abbrev Ex (H H' : Hp) : Prop := Same H H'
theorem Ex.new {H : Hp} {p : Addr} {o : HO} (h : H p = none) : Ex H (upd H p o) := fun a u e => by
  rw [upd_ne (ne_of_none e h)]
  exact e

mutual
theorem Is.imp {H H' : Hp} (ht : ∀ a vs, H a = some (.tup vs) → H' a = some (.tup vs)) (hl : ∀ a vs, H a = some (.lst vs) → H' a = some (.lst vs)) : ∀ {d : D} {v : V}, Is H d v → Is H' d v
  | .non, _, h => h
  | .bl _, _, h => h
  | .int _, _, h => h
  | .str _, _, h => h
  | .obj _, _, h => h
  | .tup _, _, ⟨a, vs, e, q, r⟩ => ⟨a, vs, e, ht a vs q, IsL.imp ht hl r⟩
  | .lst _, _, ⟨a, vs, e, q, r⟩ => ⟨a, vs, e, hl a vs q, IsL.imp ht hl r⟩
theorem IsL.imp {H H' : Hp} (ht : ∀ a vs, H a = some (.tup vs) → H' a = some (.tup vs)) (hl : ∀ a vs, H a = some (.lst vs) → H' a = some (.lst vs)) : ∀ {ds : List D} {vs : List V}, IsL H ds vs → IsL H' ds vs
  | [], _, h => h
  | _ :: _, _, ⟨v, r, e, h, t⟩ => ⟨v, r, e, Is.imp ht hl h, IsL.imp ht hl t⟩
end
theorem Is.mono {H H' : Hp} {d : D} {v : V} (e : Ex H H') (h : Is H d v) : Is H' d v := Is.imp (fun a vs q => e a _ q) (fun a vs q => e a _ q) h
theorem IsL.mono {H H' : Hp} {ds : List D} {vs : List V} (e : Ex H H') (h : IsL H ds vs) : IsL H' ds vs := IsL.imp (fun a vs q => e a _ q) (fun a vs q => e a _ q) h

theorem IsL.len {H : Hp} : ∀ {ds : List D} {vs : List V}, IsL H ds vs → vs.length = ds.length
  | [], _, h => by cases (show _ = _ from h); rfl
  | _ :: _, _, ⟨v, r, e, h, t⟩ => by subst e; simp [IsL.len t]
theorem IsL.get {H : Hp} : ∀ {ds : List D} {vs : List V} {i : Nat} {d : D}, IsL H ds vs → ds[i]? = some d → ∃ v, vs[i]? = some v ∧ Is H d v
  | [], _, _, _, _, e => by simp at e
  | _ :: _, _, 0, _, ⟨v, r, e, h, t⟩, q => by
    simp at q
    subst q e
    exact ⟨v, rfl, h⟩
  | _ :: _, _, i + 1, d, ⟨v, r, e, h, t⟩, q => by
    subst e
    obtain ⟨u, h1, h2⟩ := IsL.get (i := i) (d := d) t (by simpa using q)
    exact ⟨u, by simpa using h1, h2⟩
theorem IsL.getV {H : Hp} : ∀ {ds : List D} {vs : List V} {i : Nat} {v : V}, IsL H ds vs → vs[i]? = some v → ∃ d, ds[i]? = some d ∧ Is H d v
  | [], _, _, _, h, e => by cases (show _ = _ from h); simp at e
  | d :: _, _, 0, _, ⟨v, r, e, h, t⟩, q => by
    subst e
    simp at q
    subst q
    exact ⟨d, rfl, h⟩
  | _ :: _, _, i + 1, u, ⟨v, r, e, h, t⟩, q => by
    subst e
    obtain ⟨d, h1, h2⟩ := IsL.getV (i := i) (v := u) t (by simpa using q)
    exact ⟨d, by simpa using h1, h2⟩
theorem IsL.app {H : Hp} : ∀ {ds es : List D} {vs us : List V}, IsL H ds vs → IsL H es us → IsL H (ds ++ es) (vs ++ us)
  | [], _, _, _, h, k => by cases (show _ = _ from h); exact k
  | _ :: _, _, _, _, ⟨v, r, e, h, t⟩, k => by
    subst e
    exact ⟨v, r ++ _, rfl, h, IsL.app t k⟩
theorem IsL.snoc {H : Hp} {ds : List D} {vs : List V} {d : D} {v : V} (h : IsL H ds vs) (k : Is H d v) : IsL H (ds ++ [d]) (vs ++ [v]) := h.app ⟨v, [], rfl, k, rfl⟩
theorem IsL.drop {H : Hp} : ∀ (n : Nat) {ds : List D} {vs : List V}, IsL H ds vs → IsL H (ds.drop n) (vs.drop n)
  | 0, _, _, h => h
  | _ + 1, [], _, h => by cases (show _ = _ from h); exact rfl
  | n + 1, _ :: _, _, ⟨v, r, e, h, t⟩ => by subst e; exact IsL.drop n t
theorem IsL.take {H : Hp} : ∀ (n : Nat) {ds : List D} {vs : List V}, IsL H ds vs → IsL H (ds.take n) (vs.take n)
  | 0, _, _, h => rfl
  | _ + 1, [], _, h => by cases (show _ = _ from h); exact rfl
  | n + 1, _ :: _, _, ⟨v, r, e, h, t⟩ => by subst e; exact ⟨v, _, rfl, h, IsL.take n t⟩
theorem IsL.nil {H : Hp} : IsL H [] [] := rfl
theorem IsL.cons {H : Hp} {d : D} {ds : List D} {v : V} {vs : List V} (h : Is H d v) (t : IsL H ds vs) : IsL H (d :: ds) (v :: vs) := ⟨v, vs, rfl, h, t⟩

/-- flat data is its own value -/
def D.flat : D → Bool
  | .non => true | .bl _ => true | .int _ => true | .str _ => true
  | _ => false
def D.val : D → V
  | .non => .non | .bl b => .bl b | .int i => .int i | .str x => .str x | .obj a => .ref a
  | _ => .non
theorem Is.flat_eq {H : Hp} {d : D} {v : V} (h : Is H d v) (f : d.flat = true) : v = d.val := by
  cases d <;> first | exact h | cases f
theorem Is.of_flat {H : Hp} {d : D} (f : d.flat = true) : Is H d d.val := by
  cases d <;> first | exact rfl | cases f
theorem flat_val {d : D} (f : d.flat = true) : flatV d.val = true := by
  cases d <;> first | rfl | cases f
theorem IsL.flat_eq {H : Hp} : ∀ {ds : List D} {vs : List V}, IsL H ds vs → ds.all D.flat = true → vs = ds.map D.val
  | [], _, h, _ => h
  | d :: ds, _, ⟨v, r, e, h, t⟩, f => by
    subst e
    simp only [List.all_cons, Bool.and_eq_true] at f
    rw [h.flat_eq f.1, IsL.flat_eq t f.2]
    rfl
theorem flat_all : ∀ {ds : List D}, ds.all D.flat = true → (ds.map D.val).all flatV = true
  | [], _ => rfl
  | d :: ds, f => by
    simp only [List.all_cons, Bool.and_eq_true] at f
    simp only [List.map_cons, List.all_cons, Bool.and_eq_true]
    exact ⟨flat_val f.1, flat_all f.2⟩

/-! ### readings by name -/
abbrev rAddI : R2 := rI0 fun i j => .int (i + j)
abbrev rSubI : R2 := rI0 fun i j => .int (i - j)
abbrev rMulI : R2 := rI CMul fun i j => .int (i * j)
abbrev rModI : R2 := rI (fun _ j => 0 < j) fun i j => .int (i % j)
abbrev rLtI : R2 := rI0 fun i j => .bl (decide (i < j))
abbrev rLeI : R2 := rI0 fun i j => .bl (decide (i ≤ j))
abbrev rGtI : R2 := rI0 fun i j => .bl (decide (j < i))
abbrev rGeI : R2 := rI0 fun i j => .bl (decide (j ≤ i))
abbrev rAddS : R2 := fun x y H Q => ∃ i j, x = .str i ∧ y = .str j ∧ i.length + j.length ≤ sizeLine ∧ Q (.str (i ++ j)) H
abbrev rLenDk : List V → Hp → VK → Prop := fun xs H Q => ∃ a kvs, xs = [V.ref a] ∧ H a = some (.dK kvs) ∧ Q (.int kvs.length) H
abbrev rLenStr : List V → Hp → VK → Prop := fun xs H Q => ∃ z, xs = [.str z] ∧ z.length ≤ sizeLine ∧ Q (.int z.length) H
abbrev rLenSq (K : PySem.W.Frag) : List V → Hp → VK → Prop := fun xs H Q => ∃ p ys, xs = [.ref p] ∧ (SqL K H p ys ∨ SqT K H p ys) ∧ Q (.int ys.length) H
abbrev rSortDI : List V → Hp → VK → Prop := fun xs H Q => ∃ (a : Addr) (kvs : List (Key × V)) (ks : List Int), xs = [.ref a] ∧ Rd H a (.dK kvs) ∧ kvs.map (·.1) = ks.map Sum.inl ∧ ks.length < 64 ∧
    ∀ (ys : List Int) (p : Addr), ys.Perm ks → ys.Pairwise (· ≤ ·) → H p = none → Q (.ref p) (upd H p (.lst (ys.map V.int)))
abbrev rTupOf (K : PySem.W.Frag) : List V → Hp → VK → Prop := fun xs H Q => ∃ p ys, xs = [.ref p] ∧ ((SqL K H p ys ∧ ∀ l, H l = none → Q (.ref l) (upd H l (.tup ys))) ∨ (SqT K H p ys ∧ Q (.ref p) H))
abbrev rListOf (K : PySem.W.Frag) : List V → Hp → VK → Prop := fun xs H Q => ∃ p ys, xs = [.ref p] ∧ (SqL K H p ys ∨ SqT K H p ys) ∧ ∀ l, H l = none → Q (.ref l) (upd H l (.lst ys))
abbrev rStrI : List V → Hp → VK → Prop := fun xs H Q => ∃ i, xs = [.int i] ∧ i.natAbs.log2 < 1920 ∧ Q (.str (toString i)) H
abbrev tTru (K : PySem.W.Frag) (ta : TE) : TT := fun σ H Q => ta σ H fun x H' => ∃ k, TruV K x H' k ∧ Q k H'
abbrev rInsert : V → List V → Hp → VK → Prop := fun x vs H Q => ∃ (l : Addr) (xs : List V) (i : Int) (y : V), x = .ref l ∧ vs = [.int i, y] ∧ H l = some (.lst xs) ∧ xs.length < sizeLine ∧ 0 ≤ i ∧ i < 2 ^ 63 ∧
    Q .non (upd H l (.lst (xs.take i.toNat ++ [y] ++ xs.drop i.toNat)))

/-! ### the slots as data -/
def EnvOk (H : Hp) : St → List (Option D) → Prop
  | [], [] => True
  | _ :: σ, none :: ds => EnvOk H σ ds
  | some v :: σ, some d :: ds => Is H d v ∧ EnvOk H σ ds
  | _, _ => False
theorem EnvOk.mono {H H' : Hp} (e : Ex H H') : ∀ {σ : St} {ds : List (Option D)}, EnvOk H σ ds → EnvOk H' σ ds
  | [], [], _ => trivial
  | _ :: σ, none :: ds, h => EnvOk.mono (σ := σ) (ds := ds) e h
  | some v :: σ, some d :: ds, ⟨h, t⟩ => ⟨h.mono e, EnvOk.mono e t⟩
theorem EnvOk.get {H : Hp} : ∀ {σ : St} {ds : List (Option D)} {i : Nat} {d : D}, EnvOk H σ ds → ds[i]? = some (some d) → ∃ v, σ[i]? = some (some v) ∧ Is H d v
  | [], [], _, _, _, e => by simp at e
  | _ :: σ, none :: ds, 0, _, _, e => by simp at e
  | _ :: σ, none :: ds, i + 1, d, h, e => by
    obtain ⟨v, h1, h2⟩ := EnvOk.get (σ := σ) (ds := ds) (i := i) (d := d) h (by simpa using e)
    exact ⟨v, by simpa using h1, h2⟩
  | some v :: σ, some d :: ds, 0, _, ⟨h, t⟩, e => by
    simp at e
    subst e
    exact ⟨v, rfl, h⟩
  | some v :: σ, some _ :: ds, i + 1, d, ⟨h, t⟩, e => by
    obtain ⟨v, h1, h2⟩ := EnvOk.get (σ := σ) (ds := ds) (i := i) (d := d) t (by simpa using e)
    exact ⟨v, by simpa using h1, h2⟩
theorem EnvOk.set {H : Hp} {d : D} {v : V} (h : Is H d v) : ∀ {σ : St} {ds : List (Option D)} (i : Nat), EnvOk H σ ds → EnvOk H (σ.set i (some v)) (ds.set i (some d))
  | [], [], _, _ => trivial
  | _ :: σ, none :: ds, 0, t => ⟨h, t⟩
  | none :: σ, none :: ds, i + 1, t => EnvOk.set (σ := σ) (ds := ds) h i t
  | some _ :: σ, none :: ds, i + 1, t => EnvOk.set (σ := σ) (ds := ds) h i t
  | some v :: σ, some d :: ds, 0, t => ⟨h, t.2⟩
  | some v :: σ, some _ :: ds, i + 1, t => ⟨t.1, EnvOk.set h i t.2⟩
theorem EnvOk.clear {H : Hp} : ∀ {σ : St} {ds : List (Option D)} (i : Nat) (x : Option V), EnvOk H σ ds → EnvOk H (σ.set i x) (ds.set i none)
  | [], [], _, _, _ => trivial
  | _ :: σ, none :: ds, 0, x, t => by cases x <;> exact t
  | none :: σ, none :: ds, i + 1, x, t => EnvOk.clear (σ := σ) (ds := ds) i x t
  | some _ :: σ, none :: ds, i + 1, x, t => EnvOk.clear (σ := σ) (ds := ds) i x t
  | some v :: σ, some d :: ds, 0, x, t => by cases x <;> exact t.2
  | some v :: σ, some _ :: ds, i + 1, x, t => ⟨t.1, EnvOk.clear i x t.2⟩
def wipeD (ds : List (Option D)) : List Nat → List (Option D)
  | [] => ds
  | v :: vs => (wipeD ds vs).set v none
theorem EnvOk.wipe {H : Hp} {σ : St} {ds : List (Option D)} (h : EnvOk H σ ds) : ∀ vs : List Nat, EnvOk H (L2.wipe σ vs) (wipeD ds vs)
  | [] => h
  | v :: vs => (EnvOk.wipe h vs).clear v none
theorem EnvOk.forget {H : Hp} {σ : St} {ds : List (Option D)} (h : EnvOk H σ ds) (i : Nat) : EnvOk H σ (ds.set i none) := by
  induction σ generalizing ds i with
  | nil =>
    cases ds with
    | nil => trivial
    | cons _ _ => exact h.elim
  | cons x σ ih =>
    cases ds with
    | nil => exact h.elim
    | cons y ds =>
      cases i with
      | zero =>
        cases y with
        | none => exact h
        | some d => cases x with
          | none => exact h.elim
          | some v => exact h.2
      | succ i =>
        cases y with
        | none => exact ih h i
        | some d => cases x with
          | none => exact h.elim
          | some v => exact ⟨h.1, ih h.2 i⟩

/-! ### what evaluates to what -/
def EvD (te : TE) (ds : List (Option D)) (H : Hp) (d : D) : Prop := ∀ σ H1, Ex H H1 → EnvOk H1 σ ds → ∀ Q : VK, (∀ v H2, Ex H1 H2 → Is H2 d v → Q v H2) → te σ H1 Q
def EvB (tt : TT) (ds : List (Option D)) (H : Hp) (b : Bool) : Prop := ∀ σ H1, Ex H H1 → EnvOk H1 σ ds → ∀ Q : Bool → Hp → Prop, (∀ H2, Ex H1 H2 → Q b H2) → tt σ H1 Q
def EvA (ta : TA) (ds : List (Option D)) (H : Hp) (as : List D) : Prop := ∀ σ H1, Ex H H1 → EnvOk H1 σ ds → ∀ Q : List V → Hp → Prop, (∀ vs H2, Ex H1 H2 → IsL H2 as vs → Q vs H2) → ta σ H1 Q
def EvO (to : TO) (ds : List (Option D)) (H : Hp) (o : Option Int) : Prop := ∀ σ H1, Ex H H1 → EnvOk H1 σ ds → ∀ Q : Option Int → Hp → Prop, (∀ H2, Ex H1 H2 → Q o H2) → to σ H1 Q
/-- a body that ends by handing back d -/
def Ret (ts : TS) (ds : List (Option D)) (H : Hp) (d : D) : Prop := ∀ σ H1, Ex H H1 → EnvOk H1 σ ds → ∀ E : Ends, (∀ v H2, Ex H1 H2 → Is H2 d v → E.rt v H2) → ts E σ H1
/-- operations by values -/
def Op (r : R2) (H : Hp) (a b d : D) : Prop := ∀ H1, Ex H H1 → ∀ x y, Is H1 a x → Is H1 b y → ∀ Q : VK, (∀ v H2, Ex H1 H2 → Is H2 d v → Q v H2) → r x y H1 Q
def Cl (r : List V → Hp → VK → Prop) (H : Hp) (as : List D) (d : D) : Prop := ∀ H1, Ex H H1 → ∀ vs, IsL H1 as vs → ∀ Q : VK, (∀ v H2, Ex H1 H2 → Is H2 d v → Q v H2) → r vs H1 Q
/-- a promise that is read -/
def Pr (sp : Sp) (H : Hp) (as : List D) (d : D) : Prop := ∀ H1, Ex H H1 → ∀ vs, IsL H1 as vs → ∀ (Q : VK) (E : XK), (∀ v H2, Ex H1 H2 → Is H2 d v → Q v H2) → sp vs H1 Q E

section
variable {K : PySem.W.Frag} {ds : List (Option D)} {H H' : Hp} {ta tb tc te : TE} {t u : TT} {r : R2} {a b d : D}
theorem EvD.mono (e : Ex H H') (h : EvD te ds H d) : EvD te ds H' d := fun σ H1 x n Q k => h σ H1 (e.trans x) n Q k
theorem EvB.mono {b : Bool} (e : Ex H H') (h : EvB t ds H b) : EvB t ds H' b := fun σ H1 x n Q k => h σ H1 (e.trans x) n Q k
theorem ev_is {d' : D} (h : EvD te ds H d) (e : d = d') : EvD te ds H d' := e ▸ h
theorem eb_is {b b' : Bool} (h : EvB t ds H b) (e : b = b') : EvB t ds H b' := e ▸ h
theorem ev_var {i : Nat} (h : ds[i]? = some (some d)) : EvD (tVar i) ds H d := fun σ H1 _ n Q k => by
  obtain ⟨v, e, q⟩ := n.get h
  exact ⟨v, e, k v H1 (Same.refl _) q⟩
theorem ev_int {i : Int} : EvD (tC (.int i)) ds H (.int i) := fun _ H1 _ _ _ k => k _ H1 (Same.refl _) rfl
theorem ev_str {x : Str} : EvD (tC (.str x)) ds H (.str x) := fun _ H1 _ _ _ k => k _ H1 (Same.refl _) rfl
theorem ev_bl {x : Bool} : EvD (tC (.bl x)) ds H (.bl x) := fun _ H1 _ _ _ k => k _ H1 (Same.refl _) rfl
theorem ev_non : EvD (tC .non) ds H .non := fun _ H1 _ _ _ k => k _ H1 (Same.refl _) rfl
theorem ev_op (ha : EvD ta ds H a) (hb : EvD tb ds H b) (hr : Op r H a b d) : EvD (tOp r ta tb) ds H d := fun σ H1 e n Q k =>
  ha σ H1 e n _ fun x H2 e2 hx => hb σ H2 (e.trans e2) (n.mono e2) _ fun y H3 e3 hy => hr H3 ((e.trans e2).trans e3) x y (hx.mono e3) hy Q fun v H4 e4 hv => k v H4 ((e2.trans e3).trans e4) hv
theorem ea_nil : EvA tNil ds H [] := fun _ H1 _ _ _ k => k [] H1 (Same.refl _) rfl
theorem ea_cons {tr : TA} {as : List D} (h : EvD ta ds H a) (t : EvA tr ds H as) : EvA (tCons ta tr) ds H (a :: as) := fun σ H1 e n Q k =>
  h σ H1 e n _ fun x H2 e2 hx => t σ H2 (e.trans e2) (n.mono e2) _ fun xs H3 e3 hxs => k _ H3 (e2.trans e3) (.cons (hx.mono e3) hxs)
theorem ev_tup {tr : TA} {as : List D} (h : EvA tr ds H as) (hl : as.length ≤ 1000000) : EvD (tTup tr) ds H (.tup as) := fun σ H1 e n Q k =>
  h σ H1 e n _ fun vs H2 e2 hv => ⟨Nat.le_trans (by rw [hv.len]; exact hl) (by decide), fun p hp => k _ _ (e2.trans (Ex.new hp)) ⟨p, vs, rfl, upd_same, hv.mono (Ex.new hp)⟩⟩
theorem ev_lst {tr : TA} {as : List D} (h : EvA tr ds H as) (hl : as.length ≤ 1000000) : EvD (tLst tr) ds H (.lst as) := fun σ H1 e n Q k =>
  h σ H1 e n _ fun vs H2 e2 hv => ⟨Nat.le_trans (by rw [hv.len]; exact hl) (by decide), fun p hp => k _ _ (e2.trans (Ex.new hp)) ⟨p, vs, rfl, upd_same, hv.mono (Ex.new hp)⟩⟩
theorem ev_call {sp : Sp} {E : XK} {tr : TA} {as : List D} (h : EvA tr ds H as) (hp : Pr sp H as d) : EvD (tCall sp [] E tr) ds H d := fun σ H1 e n Q k =>
  h σ H1 e n _ fun vs H2 e2 hv => by
    rw [List.append_nil]
    exact hp H2 (e.trans e2) vs hv Q E fun v H3 e3 q => k v H3 (e2.trans e3) q
theorem ev_cb {rr : List V → Hp → VK → Prop} {tr : TA} {as : List D} (h : EvA tr ds H as) (hp : Cl rr H as d) : EvD (tCB rr tr) ds H d := fun σ H1 e n Q k =>
  h σ H1 e n _ fun vs H2 e2 hv => hp H2 (e.trans e2) vs hv Q fun v H3 e3 q => k v H3 (e2.trans e3) q
theorem ev_meth {C p dx : Addr} {m : Str} {sp : Sp} {E : XK} {tr : TA} {as : List D} {fs : List (Str × V)} (ho : EvD ta ds H (.obj p)) (hi : H p = some (.ins C dx fs)) (hm : fs.lookup m = none) (h : EvA tr ds H as) (hp : Pr sp H (.obj p :: as) d) : EvD (tMeth C m sp [] E ta tr) ds H d := fun σ H1 e n Q k =>
  ho σ H1 e n _ fun x H2 e2 hx => ⟨p, dx, fs, hx, (e.trans e2) _ _ hi, hm, h σ H2 (e.trans e2) (n.mono e2) _ fun vs H3 e3 hv => by
    rw [List.append_nil]
    exact hp H3 ((e.trans e2).trans e3) _ (.cons (hx.mono e3) hv) Q E fun v H4 e4 q => k v H4 ((e2.trans e3).trans e4) q⟩
theorem ev_fld {C p dx : Addr} {f : Str} {fs : List (Str × V)} {v : V} (ho : EvD ta ds H (.obj p)) (hi : H p = some (.ins C dx fs)) (hc : Cls K C) (hn : NoAttr K C f) (hf : fs.lookup f = some v) (hd : Is H d v) : EvD (tFld K ta f) ds H d := fun σ H1 e n Q k =>
  ho σ H1 e n _ fun x H2 e2 hx => ⟨p, C, dx, fs, v, hx, (e.trans e2) _ _ hi, hc, hn, hf, k v H2 e2 (hd.mono (e.trans e2))⟩

/-! tests -/
theorem eb_test {b : Bool} (h : EvD te ds H (.bl b)) : EvB (tTest te) ds H b := fun σ H1 e n Q k => h σ H1 e n _ fun v H2 e2 hv => ⟨b, hv, k H2 e2⟩
theorem eb_B {b : Bool} (h : EvD te ds H (.bl b)) : EvB (tB te) ds H b := fun σ H1 e n Q k => h σ H1 e n _ fun v H2 e2 hv => ⟨b, hv, k H2 e2⟩
theorem eb_not {b : Bool} (h : EvB t ds H b) : EvB (tNot t) ds H (!b) := fun σ H1 e n Q k => h σ H1 e n _ fun H2 e2 => k H2 e2
theorem eb_and {b c : Bool} (h : EvB t ds H b) (h2 : b = true → EvB u ds H c) : EvB (tAnd t u) ds H (b && c) := fun σ H1 e n Q k => h σ H1 e n _ fun H2 e2 => by
  cases b with
  | true => exact iteT (h2 rfl σ H2 (e.trans e2) (n.mono e2) Q fun H3 e3 => k H3 (e2.trans e3))
  | false => exact iteF (k H2 e2)
theorem eb_or {b c : Bool} (h : EvB t ds H b) (h2 : b = false → EvB u ds H c) : EvB (tOr t u) ds H (b || c) := fun σ H1 e n Q k => h σ H1 e n _ fun H2 e2 => by
  cases b with
  | true => exact iteT (k H2 e2)
  | false => exact iteF (h2 rfl σ H2 (e.trans e2) (n.mono e2) Q fun H3 e3 => k H3 (e2.trans e3))
theorem ev_andV {b c : Bool} (h : EvD ta ds H (.bl b)) (h2 : b = true → EvD tb ds H (.bl c)) : EvD (tAndV ta tb) ds H (.bl (b && c)) := fun σ H1 e n Q k => h σ H1 e n _ fun v H2 e2 hv => ⟨b, hv, by
  cases b with
  | true => exact iteT (h2 rfl σ H2 (e.trans e2) (n.mono e2) Q fun v H3 e3 => k v H3 (e2.trans e3))
  | false => exact iteF (k _ H2 e2 rfl)⟩
theorem ev_orV {b c : Bool} (h : EvD ta ds H (.bl b)) (h2 : b = false → EvD tb ds H (.bl c)) : EvD (tOrV ta tb) ds H (.bl (b || c)) := fun σ H1 e n Q k => h σ H1 e n _ fun v H2 e2 hv => ⟨b, hv, by
  cases b with
  | true => exact iteT (k _ H2 e2 rfl)
  | false => exact iteF (h2 rfl σ H2 (e.trans e2) (n.mono e2) Q fun v H3 e3 => k v H3 (e2.trans e3))⟩
theorem ev_notV {b : Bool} (h : EvD ta ds H (.bl b)) : EvD (tNotV ta) ds H (.bl (!b)) := fun σ H1 e n Q k => h σ H1 e n _ fun v H2 e2 hv => ⟨b, hv, k _ H2 e2 rfl⟩
theorem ev_if {b : Bool} (h : EvB t ds H b) (h1 : b = true → EvD ta ds H d) (h2 : b = false → EvD tb ds H d) : EvD (tIf t ta tb) ds H d := fun σ H1 e n Q k => h σ H1 e n _ fun H2 e2 => by
  cases b with
  | true => exact iteT (h1 rfl σ H2 (e.trans e2) (n.mono e2) Q fun v H3 e3 => k v H3 (e2.trans e3))
  | false => exact iteF (h2 rfl σ H2 (e.trans e2) (n.mono e2) Q fun v H3 e3 => k v H3 (e2.trans e3))

/-! operations -/
theorem op_I0 {g : Int → Int → V} {i j : Int} (h : ∀ H, Is H d (g i j)) : Op (rI0 g) H (.int i) (.int j) d := fun H1 _ _ _ hx hy Q k => ⟨i, j, hx, hy, k _ H1 (Same.refl _) (h H1)⟩
theorem op_I {C : Int → Int → Prop} {g : Int → Int → V} {i j : Int} (hc : C i j) (h : ∀ H, Is H d (g i j)) : Op (rI C g) H (.int i) (.int j) d := fun H1 _ _ _ hx hy Q k => ⟨i, j, hx, hy, hc, k _ H1 (Same.refl _) (h H1)⟩
theorem op_eqF (fa : a.flat = true) (fb : b.flat = true) (hs : scal a.val b.val = true) : Op rEq H a b (.bl (decide (a.val = b.val))) := fun H1 _ _ _ hx hy Q k => by
  rw [hx.flat_eq fa, hy.flat_eq fb]
  exact ⟨hs, k _ H1 (Same.refl _) rfl⟩
theorem op_neF (fa : a.flat = true) (fb : b.flat = true) (hs : scal a.val b.val = true) : Op rNe H a b (.bl (!decide (a.val = b.val))) := fun H1 _ _ _ hx hy Q k => by
  rw [hx.flat_eq fa, hy.flat_eq fb]
  exact ⟨hs, k _ H1 (Same.refl _) rfl⟩
theorem op_inL {neg : Bool} {xs : List D} (fa : a.flat = true) (fx : xs.all D.flat = true) : Op (rIn K neg) H a (.lst xs) (.bl (if neg then !inV a.val (xs.map D.val) else inV a.val (xs.map D.val))) := fun H1 _ _ _ hx hy Q k => by
  obtain ⟨p, vs, rfl, hp, hl⟩ := hy
  rw [hx.flat_eq fa]
  rw [hl.flat_eq fx] at hp
  exact ⟨p, _, rfl, .inl (SqL.of hp), flat_val fa, flat_all fx, k _ H1 (Same.refl _) rfl⟩
theorem op_inT {neg : Bool} {xs : List D} (fa : a.flat = true) (fx : xs.all D.flat = true) : Op (rIn K neg) H a (.tup xs) (.bl (if neg then !inV a.val (xs.map D.val) else inV a.val (xs.map D.val))) := fun H1 _ _ _ hx hy Q k => by
  obtain ⟨p, vs, rfl, hp, hl⟩ := hy
  rw [hx.flat_eq fa]
  rw [hl.flat_eq fx] at hp
  exact ⟨p, _, rfl, .inr (SqT.of hp), flat_val fa, flat_all fx, k _ H1 (Same.refl _) rfl⟩
theorem atI_nat' {α : Type} {xs : List α} {i : Nat} {v : α} (h : xs[i]? = some v) : atI xs (i : Int) = some v := atI_nat h
theorem op_ixT {xs : List D} {i : Nat} (h : xs[i]? = some d) : Op (rIxT K) H (.tup xs) (.int (i : Int)) d := fun H1 _ _ _ hx hy Q k => by
  obtain ⟨p, vs, rfl, hp, hl⟩ := hx
  obtain ⟨v, e, q⟩ := hl.get h
  exact ⟨p, vs, _, v, rfl, hy, SqT.of hp, atI_nat e, k v H1 (Same.refl _) q⟩
theorem op_ixL {xs : List D} {i : Nat} (h : xs[i]? = some d) : Op (rIxL K) H (.lst xs) (.int (i : Int)) d := fun H1 _ _ _ hx hy Q k => by
  obtain ⟨p, vs, rfl, hp, hl⟩ := hx
  obtain ⟨v, e, q⟩ := hl.get h
  exact ⟨p, vs, _, v, rfl, hy, SqL.of hp, atI_nat e, k v H1 (Same.refl _) q⟩
theorem ev_isN (ha : EvD ta ds H a) {b : Bool} (h : ∀ H v, Is H a v → decide (v = V.non) = b) : EvD (tIsN ta) ds H (.bl b) := fun σ H1 e n Q k => ha σ H1 e n _ fun v H2 e2 hv => by
  rw [h H2 v hv]
  exact k _ H2 e2 rfl
theorem ev_notN (ha : EvD ta ds H a) {b : Bool} (h : ∀ H v, Is H a v → decide (v = V.non) = b) : EvD (tNotN ta) ds H (.bl (!b)) := fun σ H1 e n Q k => ha σ H1 e n _ fun v H2 e2 hv => by
  rw [h H2 v hv]
  exact k _ H2 e2 rfl

/-! statements -/
variable {tu tw tz : TS}
theorem Ret.is {d' : D} (h : Ret tu ds H d) (e : d = d') : Ret tu ds H d' := e ▸ h
theorem ret_ret (h : EvD te ds H d) : Ret (tRet te) ds H d := fun σ H1 e n E k => h σ H1 e n _ fun v H2 e2 hv => k v H2 e2 hv
theorem ret_asg {i : Nat} {x : D} (h : EvD te ds H x) (k : Ret tz (ds.set i (some x)) H d) : Ret (tSeq (tAsg te (gName i)) tz) ds H d := fun σ H1 e n E q =>
  h σ H1 e n _ fun v H2 e2 hv => k (σ.set i (some v)) H2 (e.trans e2) ((n.mono e2).set hv i) E fun u H3 e3 hu => q u H3 (e2.trans e3) hu
/-- if c: (a block that hands back) .. the rest -/
theorem ret_when {b : Bool} (h : EvB t ds H b) (h1 : b = true → Ret tu ds H d) (h2 : b = false → Ret tz ds H d) : Ret (tSeq (tIfS t tu tNext) tz) ds H d := fun σ H1 e n E q =>
  h σ H1 e n _ fun H2 e2 => by
    cases b with
    | true => exact iteT (h1 rfl σ H2 (e.trans e2) (n.mono e2) _ fun u H3 e3 hu => q u H3 (e2.trans e3) hu)
    | false => exact iteF (h2 rfl σ H2 (e.trans e2) (n.mono e2) E fun u H3 e3 hu => q u H3 (e2.trans e3) hu)
theorem ret_if {b : Bool} (h : EvB t ds H b) (h1 : b = true → Ret tu ds H d) (h2 : b = false → Ret tw ds H d) : Ret (tIfS t tu tw) ds H d := fun σ H1 e n E q =>
  h σ H1 e n _ fun H2 e2 => by
    cases b with
    | true => exact iteT (h1 rfl σ H2 (e.trans e2) (n.mono e2) _ fun u H3 e3 hu => q u H3 (e2.trans e3) hu)
    | false => exact iteF (h2 rfl σ H2 (e.trans e2) (n.mono e2) E fun u H3 e3 hu => q u H3 (e2.trans e3) hu)
end

/-! ### a promise by data: what it asks ahead (stable under Ex), and the answer -/
def rsp (Pre : Hp → List D → D → Prop) : Sp := fun vs H Q _ => ∃ as d, IsL H as vs ∧ Pre H as d ∧ ∀ v H', Ex H H' → Is H' d v → Q v H'
theorem rsp_pr {Pre : Hp → List D → D → Prop} {H : Hp} {as : List D} {d : D} (h : ∀ H', Ex H H' → Pre H' as d) : Pr (rsp Pre) H as d := fun H1 e vs hv Q E k => ⟨as, d, hv, h H1 e, fun v H' e' hd => k v H' e' hd⟩
theorem start_env {H : Hp} {N : List Str} {as : List D} {vs : List V} (h : IsL H as vs) (hl : as.length ≤ N.length) : EnvOk H (start N vs) (as.map some ++ List.replicate (N.length - as.length) none) := by
  induction as generalizing N vs with
  | nil =>
    cases (show _ = _ from h)
    induction N with
    | nil => trivial
    | cons x N ih => exact ih (Nat.zero_le _)
  | cons a as ih =>
    obtain ⟨v, r, rfl, h1, h2⟩ := h
    cases N with
    | nil => simp at hl
    | cons x N =>
      have q := ih (N := N) h2 (by simpa using hl)
      unfold L2.start at q ⊢
      simp only [List.length_cons, Nat.add_sub_add_right]
      exact ⟨h1, q⟩
end Cs
set_option Elab.async false
set_option linter.all false
set_option maxRecDepth 100000
set_option maxHeartbeats 4000000
namespace Cs
open PySem L2

/-! ### data without lists -/
mutual
def D.pure : D → Bool
  | .lst _ => false
  | .tup ds => D.pureL ds
  | _ => true
def D.pureL : List D → Bool
  | [] => true
  | d :: ds => d.pure && D.pureL ds
end
mutual
theorem Is.upd_lst {H : Hp} {a : Addr} {xs : List V} {o : HO} (ha : H a = some (.lst xs)) : ∀ {d : D} {v : V}, d.pure = true → Is H d v → Is (upd H a o) d v
  | .non, _, _, h => h
  | .bl _, _, _, h => h
  | .int _, _, _, h => h
  | .str _, _, _, h => h
  | .obj _, _, _, h => h
  | .tup _, _, p, ⟨b, vs, e, q, r⟩ => ⟨b, vs, e, by rw [upd_ne (ne_of q ha (by intro z; cases z))]; exact q, IsL.upd_lst ha p r⟩
  | .lst _, _, p, _ => by cases (show false = true from p)
theorem IsL.upd_lst {H : Hp} {a : Addr} {xs : List V} {o : HO} (ha : H a = some (.lst xs)) : ∀ {ds : List D} {vs : List V}, D.pureL ds = true → IsL H ds vs → IsL (upd H a o) ds vs
  | [], _, _, h => h
  | _ :: _, _, p, ⟨v, r, e, h, t⟩ => by
    have p' := Bool.and_eq_true_iff.mp (show (_ && _) = true from p)
    exact ⟨v, r, e, Is.upd_lst ha p'.1 h, IsL.upd_lst ha p'.2 t⟩
end
theorem pureL_app : ∀ {xs ys : List D}, D.pureL (xs ++ ys) = (D.pureL xs && D.pureL ys)
  | [], _ => rfl
  | x :: xs, ys => by
    show (x.pure && D.pureL (xs ++ ys)) = ((x.pure && D.pureL xs) && D.pureL ys)
    rw [pureL_app, Bool.and_assoc]
theorem pureL_of : ∀ {xs : List D}, (∀ x ∈ xs, x.pure = true) → D.pureL xs = true
  | [], _ => rfl
  | x :: xs, h => by
    show (x.pure && D.pureL xs) = true
    rw [h x (by simp), pureL_of fun y hy => h y (by simp [hy])]
    rfl
theorem flat_pure {d : D} (h : d.flat = true) : d.pure = true := by cases d <;> first | rfl | cases h

/-! ### dicts as data -/
def DictIs (H : Hp) : List (Key × D) → List (Key × V) → Prop
  | [], kvs => kvs = []
  | p :: r, kvs => ∃ v t, kvs = (p.1, v) :: t ∧ Is H p.2 v ∧ DictIs H r t
theorem DictIs.imp {H H' : Hp} (ht : ∀ a vs, H a = some (.tup vs) → H' a = some (.tup vs)) (hl : ∀ a vs, H a = some (.lst vs) → H' a = some (.lst vs)) : ∀ {kds : List (Key × D)} {kvs : List (Key × V)}, DictIs H kds kvs → DictIs H' kds kvs
  | [], _, h => h
  | _ :: _, _, ⟨v, t, e, h, r⟩ => ⟨v, t, e, h.imp ht hl, DictIs.imp ht hl r⟩
theorem DictIs.mono {H H' : Hp} {kds : List (Key × D)} {kvs : List (Key × V)} (e : Ex H H') (h : DictIs H kds kvs) : DictIs H' kds kvs := h.imp (fun a vs q => e a _ q) (fun a vs q => e a _ q)
def valD (kds : List (Key × D)) (k : Key) : Option D := (kds.find? fun p => decide (p.1 = k)).map (·.2)
theorem valD_pos {p : Key × D} {r : List (Key × D)} {k : Key} (e : p.1 = k) : valD (p :: r) k = some p.2 := by simp [valD, List.find?_cons, e]
theorem valD_neg {p : Key × D} {r : List (Key × D)} {k : Key} (e : ¬ p.1 = k) : valD (p :: r) k = valD r k := by simp [valD, List.find?_cons, e]
theorem DictIs.getS {H : Hp} {k : Key} {d : D} : ∀ {kds : List (Key × D)} {kvs : List (Key × V)}, DictIs H kds kvs → valD kds k = some d → ∃ v, valV kvs k = some v ∧ Is H d v
  | [], _, _, e => by cases e
  | p :: r, _, ⟨v, t, e, h, q⟩, hv => by
    subst e
    by_cases c : p.1 = k
    · rw [valD_pos c] at hv
      cases hv
      exact ⟨v, valV_pos (p := (p.1, v)) c, h⟩
    · rw [valD_neg c] at hv
      obtain ⟨u, h1, h2⟩ := DictIs.getS q hv
      exact ⟨u, by rw [valV_neg (p := (p.1, v)) c]; exact h1, h2⟩
theorem DictIs.getN {H : Hp} {k : Key} : ∀ {kds : List (Key × D)} {kvs : List (Key × V)}, DictIs H kds kvs → valD kds k = none → valV kvs k = none
  | [], _, h, _ => by cases (show _ = _ from h); rfl
  | p :: r, _, ⟨v, t, e, h, q⟩, hv => by
    subst e
    by_cases c : p.1 = k
    · rw [valD_pos c] at hv
      cases hv
    · rw [valD_neg c] at hv
      rw [valV_neg (p := (p.1, v)) c]
      exact DictIs.getN q hv
theorem DictIs.isSome {H : Hp} {k : Key} {kds : List (Key × D)} {kvs : List (Key × V)} (h : DictIs H kds kvs) : (valV kvs k).isSome = (valD kds k).isSome := by
  cases e : valD kds k with
  | none => rw [h.getN e]; rfl
  | some d =>
    obtain ⟨v, e1, _⟩ := h.getS e
    rw [e1]
    rfl
theorem DictIs.len {H : Hp} : ∀ {kds : List (Key × D)} {kvs : List (Key × V)}, DictIs H kds kvs → kvs.length = kds.length
  | [], _, h => by cases (show _ = _ from h); rfl
  | _ :: _, _, ⟨v, t, e, h, q⟩ => by subst e; simp [DictIs.len q]
theorem DictIs.keys {H : Hp} : ∀ {kds : List (Key × D)} {kvs : List (Key × V)}, DictIs H kds kvs → kvs.map (·.1) = kds.map (·.1)
  | [], _, h => by cases (show _ = _ from h); rfl
  | _ :: _, _, ⟨v, t, e, h, q⟩ => by subst e; simp [DictIs.keys q]
/-- in its place, or at the end -/
def putD (kds : List (Key × D)) (k : Key) (d : D) : List (Key × D) :=
  if (valD kds k).isSome = true then kds.map (fun p => if p.1 = k then (p.1, d) else p) else kds ++ [(k, d)]
def dropD (kds : List (Key × D)) (k : Key) : List (Key × D) := kds.filter fun p => decide (p.1 ≠ k)
theorem DictIs.app {H : Hp} : ∀ {a b : List (Key × D)} {c e : List (Key × V)}, DictIs H a c → DictIs H b e → DictIs H (a ++ b) (c ++ e)
  | [], _, _, _, h, k => by cases (show _ = _ from h); exact k
  | _ :: _, _, _, _, ⟨v, t, e, h, q⟩, k => by subst e; exact ⟨v, _, rfl, h, DictIs.app q k⟩
theorem DictIs.updV {H : Hp} {k : Key} {d : D} {v : V} (hv : Is H d v) : ∀ {kds : List (Key × D)} {kvs : List (Key × V)}, DictIs H kds kvs → DictIs H (kds.map fun p => if p.1 = k then (p.1, d) else p) (kvs.map fun p => if p.1 = k then (p.1, v) else p)
  | [], _, h => by cases (show _ = _ from h); exact rfl
  | p :: r, _, ⟨u, t, e, h, q⟩ => by
    subst e
    have ih := DictIs.updV (k := k) hv q
    by_cases c : p.1 = k
    · simp only [List.map_cons, if_pos c]
      exact ⟨v, _, rfl, hv, ih⟩
    · simp only [List.map_cons, if_neg c]
      exact ⟨u, _, rfl, h, ih⟩
theorem DictIs.put {H : Hp} {k : Key} {d : D} {v : V} {kds : List (Key × D)} {kvs : List (Key × V)} (h : DictIs H kds kvs) (hv : Is H d v) : DictIs H (putD kds k d) (putK kvs k v) := by
  unfold putD putK
  rw [valV_any, h.isSome]
  by_cases c : (valD kds k).isSome = true
  · rw [if_pos c, if_pos c]
    exact h.updV hv
  · rw [if_neg c, if_neg c]
    exact h.app ⟨v, [], rfl, hv, rfl⟩
theorem DictIs.drop {H : Hp} {k : Key} : ∀ {kds : List (Key × D)} {kvs : List (Key × V)}, DictIs H kds kvs → DictIs H (dropD kds k) (dropK kvs k)
  | [], _, h => by cases (show _ = _ from h); exact rfl
  | p :: r, _, ⟨u, t, e, h, q⟩ => by
    subst e
    have ih := DictIs.drop (k := k) q
    unfold dropD dropK at ih ⊢
    by_cases c : p.1 = k
    · simp only [List.filter_cons, c, ne_eq, not_true_eq_false, decide_false, Bool.false_eq_true, ↓reduceIte]
      exact ih
    · simp only [List.filter_cons, c, ne_eq, not_false_eq_true, decide_true, ↓reduceIte]
      exact ⟨u, _, rfl, h, ih⟩
theorem putK_len (kvs : List (Key × V)) (k : Key) (v : V) : (putK kvs k v).length ≤ kvs.length + 1 := by
  unfold putK
  split
  · simp
  · simp
/-- a dict to be read, to be written -/
def DAt (H : Hp) (a : Addr) (kds : List (Key × D)) : Prop := ∃ kvs, Rd H a (.dK kvs) ∧ DictIs H kds kvs
def DOn (H : Hp) (a : Addr) (kds : List (Key × D)) : Prop := ∃ kvs, H a = some (.dK kvs) ∧ DictIs H kds kvs
theorem DOn.at {H : Hp} {a : Addr} {kds : List (Key × D)} (h : DOn H a kds) : DAt H a kds := let ⟨kvs, e, r⟩ := h; ⟨kvs, .inl e, r⟩
theorem DAt.mono {H H' : Hp} {a : Addr} {kds : List (Key × D)} (e : Ex H H') (h : DAt H a kds) : DAt H' a kds := by
  obtain ⟨kvs, r, q⟩ := h
  refine ⟨kvs, ?_, q.mono e⟩
  rcases r with r | ⟨o, r⟩
  · exact .inl (e _ _ r)
  · exact .inr ⟨o, e _ _ r⟩
theorem DOn.mono {H H' : Hp} {a : Addr} {kds : List (Key × D)} (e : Ex H H') (h : DOn H a kds) : DOn H' a kds := let ⟨kvs, r, q⟩ := h; ⟨kvs, e _ _ r, q.mono e⟩
/-- the heap with the dict locked (or changed): what is no dict there -/
theorem Is.upd_dK {H : Hp} {a : Addr} {kvs : List (Key × V)} {o : HO} {d : D} {v : V} (ha : H a = some (.dK kvs)) (h : Is H d v) : Is (upd H a o) d v :=
  h.imp (fun b vs q => by rw [upd_ne (ne_of q ha (by intro z; cases z))]; exact q) (fun b vs q => by rw [upd_ne (ne_of q ha (by intro z; cases z))]; exact q)
theorem IsL.upd_dK {H : Hp} {a : Addr} {kvs : List (Key × V)} {o : HO} {d : List D} {v : List V} (ha : H a = some (.dK kvs)) (h : IsL H d v) : IsL (upd H a o) d v :=
  h.imp (fun b vs q => by rw [upd_ne (ne_of q ha (by intro z; cases z))]; exact q) (fun b vs q => by rw [upd_ne (ne_of q ha (by intro z; cases z))]; exact q)
theorem DictIs.upd_dK {H : Hp} {a : Addr} {kvs : List (Key × V)} {o : HO} {d : List (Key × D)} {v : List (Key × V)} (ha : H a = some (.dK kvs)) (h : DictIs H d v) : DictIs (upd H a o) d v :=
  h.imp (fun b vs q => by rw [upd_ne (ne_of q ha (by intro z; cases z))]; exact q) (fun b vs q => by rw [upd_ne (ne_of q ha (by intro z; cases z))]; exact q)
theorem EnvOk.imp {H H' : Hp} (ht : ∀ a vs, H a = some (.tup vs) → H' a = some (.tup vs)) (hl : ∀ a vs, H a = some (.lst vs) → H' a = some (.lst vs)) : ∀ {σ : St} {ds : List (Option D)}, EnvOk H σ ds → EnvOk H' σ ds
  | [], [], _ => trivial
  | _ :: σ, none :: ds, h => EnvOk.imp (σ := σ) (ds := ds) ht hl h
  | some v :: σ, some d :: ds, ⟨h, t⟩ => ⟨h.imp ht hl, EnvOk.imp ht hl t⟩
theorem EnvOk.upd_dK {H : Hp} {a : Addr} {kvs : List (Key × V)} {o : HO} {σ : St} {ds : List (Option D)} (ha : H a = some (.dK kvs)) (h : EnvOk H σ ds) : EnvOk (upd H a o) σ ds :=
  h.imp (fun b vs q => by rw [upd_ne (ne_of q ha (by intro z; cases z))]; exact q) (fun b vs q => by rw [upd_ne (ne_of q ha (by intro z; cases z))]; exact q)

def keyD : Key → D
  | .inl i => .int i
  | .inr x => .str x
theorem is_key {H : Hp} {k : Key} {v : V} (h : Is H (keyD k) v) : v = kV k := by cases k <;> exact h
section
variable {K : PySem.W.Frag} {ds : List (Option D)} {H H' : Hp} {ta tb tc te td ty tx : TE} {t u : TT} {a : Addr} {d : D} {k : Key} {kds : List (Key × D)}
theorem ev_dget (hd : EvD td ds H (.obj a)) (hk : EvD ty ds H (keyD k)) (h : DAt H a kds) (hv : valD kds k = some d) : EvD (tDGet td ty) ds H d := fun σ H1 e n Q q =>
  hd σ H1 e n _ fun x H2 e2 hx => hk σ H2 (e.trans e2) (n.mono e2) _ fun y H3 e3 hy => by
    obtain ⟨kvs, r, w⟩ := h.mono ((e.trans e2).trans e3)
    obtain ⟨v, h1, h2⟩ := w.getS hv
    exact ⟨a, v, hx, .inl ⟨kvs, k, r, is_key hy, h1.symm⟩, q v H3 (e2.trans e3) h2⟩
theorem ev_din (hk : EvD ty ds H (keyD k)) (hd : EvD td ds H (.obj a)) (h : DAt H a kds) : EvD (tDIn ty td) ds H (.bl (valD kds k).isSome) := fun σ H1 e n Q q =>
  hk σ H1 e n _ fun y H2 e2 hy => hd σ H2 (e.trans e2) (n.mono e2) _ fun x H3 e3 hx => by
    obtain ⟨kvs, r, w⟩ := h.mono ((e.trans e2).trans e3)
    exact ⟨a, _, hx, .inl ⟨kvs, k, r, is_key hy, rfl⟩, q _ H3 (e2.trans e3) (by rw [w.isSome]; exact rfl)⟩
theorem ev_dnotin (hk : EvD ty ds H (keyD k)) (hd : EvD td ds H (.obj a)) (h : DAt H a kds) : EvD (tDNotIn ty td) ds H (.bl (!(valD kds k).isSome)) := fun σ H1 e n Q q =>
  hk σ H1 e n _ fun y H2 e2 hy => hd σ H2 (e.trans e2) (n.mono e2) _ fun x H3 e3 hx => by
    obtain ⟨kvs, r, w⟩ := h.mono ((e.trans e2).trans e3)
    exact ⟨a, _, hx, .inl ⟨kvs, k, r, is_key hy, rfl⟩, q _ H3 (e2.trans e3) (by rw [w.isSome]; exact rfl)⟩
theorem ev_dinN {kd : D} {b : Bool} (hk : EvD ty ds H kd) (hd : EvD td ds H (.obj a)) (h : DAt H a kds) (hb : (kd = .non ∧ b = false) ∨ ∃ k, kd = keyD k ∧ b = (valD kds k).isSome) : EvD (tDInN ty td) ds H (.bl b) := fun σ H1 e n Q q =>
  hk σ H1 e n _ fun y H2 e2 hy => hd σ H2 (e.trans e2) (n.mono e2) _ fun x H3 e3 hx => by
    obtain ⟨kvs, r, w⟩ := h.mono ((e.trans e2).trans e3)
    rcases hb with ⟨rfl, rfl⟩ | ⟨k, rfl, rfl⟩
    · exact .inr ⟨a, kvs, hx, hy, r, q _ H3 (e2.trans e3) rfl⟩
    · exact .inl ⟨a, _, hx, .inl ⟨kvs, k, r, is_key hy, rfl⟩, q _ H3 (e2.trans e3) (by rw [w.isSome]; exact rfl)⟩
theorem DAt.isD (h : DAt H a kds) : IsD H a := let ⟨kvs, r, _⟩ := h; .inl ⟨kvs, r⟩
theorem ev_dget2 {z : D} (hd : EvD td ds H (.obj a)) (hk : EvD ty ds H (keyD k)) (hz : EvD tx ds H z) (h : DAt H a kds) : EvD (tDGet2 td ty tx) ds H ((valD kds k).getD z) := fun σ H1 e n Q q =>
  hd σ H1 e n _ fun x H2 e2 hx => ⟨a, hx, (h.mono (e.trans e2)).isD, hk σ H2 (e.trans e2) (n.mono e2) _ fun y H3 e3 hy => hz σ H3 ((e.trans e2).trans e3) ((n.mono e2).mono e3) _ fun v H4 e4 hv => by
    obtain ⟨kvs, r, w⟩ := h.mono (((e.trans e2).trans e3).trans e4)
    refine ⟨_, .inl ⟨kvs, k, r, is_key hy, rfl⟩, ?_⟩
    cases c : valD kds k with
    | none =>
      rw [w.getN c]
      rw [c] at q
      exact q _ H4 ((e2.trans e3).trans e4) hv
    | some d =>
      obtain ⟨u, h1, h2⟩ := w.getS c
      rw [h1]
      rw [c] at q
      exact q _ H4 ((e2.trans e3).trans e4) h2⟩
end

/-! ### comprehensions -/
theorem take_succ_of {α : Type} {xs : List α} {i : Nat} {x : α} (h : xs[i]? = some x) : xs.take (i + 1) = xs.take i ++ [x] := by
  rw [List.take_add_one, h]
  rfl
section
variable {K : PySem.W.Frag} {ds : List (Option D)} {H H' : Hp} {tl te : TE} {tt : TT} {j : Nat}
/-- the new list so far -/
def Acc (H : Hp) (p : Addr) (ys : List D) (H' : Hp) : Prop := H p = none ∧ Ex H H' ∧ ∃ acc, H' p = some (.lst acc) ∧ IsL H' ys acc ∧ D.pureL ys = true
theorem Acc.zero {p : Addr} (h : H p = none) : Acc H p [] (upd H p (.lst [])) := ⟨h, Ex.new h, [], upd_same, rfl, rfl⟩
theorem Acc.ext {p : Addr} {ys : List D} {H2 : Hp} (h : Acc H p ys H') (e : Ex H' H2) : Acc H p ys H2 := let ⟨a, b, acc, c, d, f⟩ := h; ⟨a, b.trans e, acc, e _ _ c, d.mono e, f⟩
theorem Acc.snoc {p : Addr} {ys : List D} {y : D} {v : V} {acc : List V} (h : Acc H p ys H') (hp : H' p = some (.lst acc)) (hv : Is H' y v) (py : y.pure = true) : Acc H p (ys ++ [y]) (upd H' p (.lst (acc ++ [v]))) := by
  obtain ⟨a, b, acc', c, d, f⟩ := h
  rw [hp] at c
  cases c
  refine ⟨a, fun x o hx => ?_, _, upd_same, (d.upd_lst hp f).snoc (hv.upd_lst hp py), ?_⟩
  · rw [upd_ne (ne_of_none hx a)]
    exact b x o hx
  · rw [pureL_app, f]
    show (true && (y.pure && true)) = true
    rw [py]
    rfl
theorem lc_turn {p : Addr} {ys : List D} {σ2 : St} {f : Option D} {ds2 : List (Option D)} {H0 : Hp} (h0 : Ex H0 H) (A : Acc H p ys H') (n : EnvOk H' σ2 ds2) (hz : ys.length < 1000000) (ht : EvB tt ds2 H0 f.isSome) (he : ∀ y, f = some y → EvD te ds2 H0 y ∧ y.pure = true) :
    tt σ2 H' fun b H3 => if b = true then te σ2 H3 fun y H4 => ∃ acc, H4 p = some (.lst acc) ∧ acc.length < sizeLine ∧ Acc H p (ys ++ f.toList) (upd H4 p (.lst (acc ++ [y]))) else Acc H p (ys ++ f.toList) H3 := by
  refine ht σ2 H' (h0.trans A.2.1) n _ fun H3 e3 => ?_
  cases f with
  | none =>
    refine iteF ?_
    rw [Option.toList_none, List.append_nil]
    exact A.ext e3
  | some y =>
    obtain ⟨hy, py⟩ := he y rfl
    refine iteT (hy σ2 H3 (h0.trans (A.2.1.trans e3)) (n.mono e3) _ fun v H4 e4 hv => ?_)
    have A4 := (A.ext e3).ext e4
    obtain ⟨_, _, acc, c, d, _⟩ := id A4
    refine ⟨acc, c, ?_, A4.snoc c hv py⟩
    rw [d.len]
    exact Nat.lt_trans hz (by decide)
theorem filterMap_len {α β : Type} (f : α → Option β) (xs : List α) : (xs.filterMap f).length ≤ xs.length := List.length_filterMap_le f xs
theorem fm_take_succ {α β : Type} {f : α → Option β} {xs : List α} {i : Nat} {x : α} (h : xs[i]? = some x) : (xs.take (i + 1)).filterMap f = (xs.take i).filterMap f ++ (f x).toList := by
  rw [take_succ_of h, List.filterMap_append]
  cases e : f x <;> simp [e]
/-- [e for x in xs if t], xs a list, x one name -/
theorem ev_lcL {xs : List D} (f : D → Option D) (hl : EvD tl ds H (.lst xs)) (hz : xs.length < 1000000) (ht : ∀ x ∈ xs, EvB tt (ds.set j (some x)) H (f x).isSome)
    (he : ∀ x ∈ xs, ∀ y, f x = some y → EvD te (ds.set j (some x)) H y ∧ y.pure = true) : EvD (tLc (iList K tl) (gName j) tt te [j]) ds H (.lst (xs.filterMap f)) := fun σ H0 e n Q q =>
  hl σ H0 e n _ fun v H1 e1 hv => by
    obtain ⟨a, vs, rfl, ha, hvs⟩ := hv
    refine ⟨a, rfl, ⟨vs, SqL.of ha⟩, fun p hp => lc_list (xs := vs) (fun i H' => Acc H1 p ((xs.take i).filterMap f) H') (Acc.zero hp) (fun i H' _ A => SqL.of (A.2.1 _ _ ha)) (fun i x H' hi A => ?_) fun H' A => ?_⟩
    · obtain ⟨d, hd, hx⟩ := hvs.getV hi
      refine ⟨by simp [wipe], ?_⟩
      rw [fm_take_succ hd]
      have hm : d ∈ xs := List.mem_of_getElem? hd
      refine lc_turn (ds2 := ds.set j (some d)) (H0 := H) (e.trans e1) A ?_ ?_ (ht d hm) (he d hm)
      · simp only [wipe, List.set_set]
        exact ((n.mono e1).mono A.2.1).set (hx.mono A.2.1) j
      · have := filterMap_len f (xs.take i)
        have := List.length_take_le' i xs
        omega
    · obtain ⟨_, ex, acc, c, d, _⟩ := A
      rw [hvs.len, List.take_length] at d
      exact q _ H' (e1.trans ex) ⟨p, acc, rfl, c, d⟩
/-- .. a pair of names -/
theorem ev_lcL2 {xs : List D} {j1 j2 : Nat} (hj : j1 ≠ j2) (f : D → Option D) (hl : EvD tl ds H (.lst xs)) (hz : xs.length < 1000000) (hx2 : ∀ x ∈ xs, ∃ y z, x = .tup [y, z]) (ht : ∀ y z, D.tup [y, z] ∈ xs → EvB tt ((ds.set j1 (some y)).set j2 (some z)) H (f (.tup [y, z])).isSome)
    (he : ∀ y z, D.tup [y, z] ∈ xs → ∀ r, f (.tup [y, z]) = some r → EvD te ((ds.set j1 (some y)).set j2 (some z)) H r ∧ r.pure = true) :
    EvD (tLc (iList K tl) (gTup K 2 (gCons (gName j1) (gCons (gName j2) gNil))) tt te [j1, j2]) ds H (.lst (xs.filterMap f)) := fun σ H0 e n Q q =>
  hl σ H0 e n _ fun v H1 e1 hv => by
    obtain ⟨a, vs, rfl, ha, hvs⟩ := hv
    refine ⟨a, rfl, ⟨vs, SqL.of ha⟩, fun p hp => lc_list (xs := vs) (fun i H' => Acc H1 p ((xs.take i).filterMap f) H') (Acc.zero hp) (fun i H' _ A => SqL.of (A.2.1 _ _ ha)) (fun i x H' hi A => ?_) fun H' A => ?_⟩
    · obtain ⟨d, hd, hx⟩ := hvs.getV hi
      have hm : d ∈ xs := List.mem_of_getElem? hd
      obtain ⟨y, z, rfl⟩ := hx2 d hm
      obtain ⟨b, us, rfl, hb, u1, r1, rfl, hu1, u2, r2, rfl, hu2, hr2⟩ := hx
      cases (show _ = _ from hr2)
      refine ⟨b, _, rfl, SqT.of (A.2.1 _ _ hb), rfl, _, _, rfl, _, _, rfl, rfl, ?_⟩
      have hw : wipe σ [j1, j2] = (σ.set j2 none).set j1 none := rfl
      have es : (((wipe σ [j1, j2]).set j1 (some u1)).set j2 (some u2)) = (σ.set j1 (some u1)).set j2 (some u2) := by
        rw [hw, List.set_set, List.set_comm _ _ hj.symm, List.set_set, List.set_comm _ _ hj]
      refine ⟨?_, ?_⟩
      · rw [es, hw]
        show (((σ.set j1 (some u1)).set j2 (some u2)).set j2 none).set j1 none = (σ.set j2 none).set j1 none
        rw [List.set_set, List.set_comm _ _ hj, List.set_set]
      · rw [fm_take_succ hd]
        refine lc_turn (ds2 := (ds.set j1 (some y)).set j2 (some z)) (H0 := H) (e.trans e1) A ?_ ?_ (ht y z hm) (he y z hm)
        · rw [es]
          exact ((((n.mono e1).mono A.2.1).set (hu1.mono A.2.1) j1).set (hu2.mono A.2.1) j2)
        · have := filterMap_len f (xs.take i)
          have := List.length_take_le' i xs
          omega
    · obtain ⟨_, ex, acc, c, d, _⟩ := A
      rw [hvs.len, List.take_length] at d
      exact q _ H' (e1.trans ex) ⟨p, acc, rfl, c, d⟩
end

/-! ### a dict that is walked: locked -/
def Lk (H : Hp) (a : Addr) (kvs : List (Key × V)) (od : Obj) (HL : Hp) : Prop := HL = upd H a (.frz od (.dK kvs))
section
variable {K : PySem.W.Frag} {ds : List (Option D)} {H H' : Hp} {td te tl : TE} {tt : TT} {j : Nat} {a : Addr} {od : Obj} {kvs : List (Key × V)} {kds : List (Key × D)} {d : D}
theorem DictIs.keyAt (h : DictIs H kds kvs) {i : Nat} {k : Key} {v : V} (e : kvs[i]? = some (k, v)) : (kds.map (·.1))[i]? = some k := by
  have q : (kvs.map (·.1))[i]? = some k := by rw [List.getElem?_map, e]; rfl
  rw [h.keys] at q
  exact q
theorem ev_lcKey (hL : H a = some (.frz od (.dK kvs))) {ks : List Key} (hks : kvs.map (·.1) = ks) (f : Key → Option D) (hd : EvD td ds H (.obj a)) (hz : kvs.length < 1000000) (ht : ∀ k ∈ ks, EvB tt (ds.set j (some (keyD k))) H (f k).isSome)
    (he : ∀ k ∈ ks, ∀ y, f k = some y → EvD te (ds.set j (some (keyD k))) H y ∧ y.pure = true) : EvD (tLc (iKeys td) (gName j) tt te [j]) ds H (.lst (ks.filterMap f)) := fun σ H0 e n Q q =>
  hd σ H0 e n _ fun v H1 e1 hv => by
    refine ⟨a, od, hv, .inl ⟨kvs, (e.trans e1) _ _ hL, fun p hp => lc_it walk_keys (fun i H' => Acc H1 p ((ks.take i).filterMap f) H') (Acc.zero hp) (fun i H' _ A => A.2.1 _ _ ((e.trans e1) _ _ hL)) (fun i x H' H2 hi A y => ?_) fun H' A => ?_⟩⟩
    · obtain ⟨rfl, k, v, hk, rfl⟩ := y
      have hk' : ks[i]? = some k := by rw [← hks, List.getElem?_map, hk]; rfl
      refine ⟨by simp [wipe], ?_⟩
      rw [fm_take_succ hk']
      have hm : k ∈ ks := List.mem_of_getElem? hk'
      refine lc_turn (ds2 := ds.set j (some (keyD k))) (H0 := H) (e.trans e1) A ?_ ?_ (ht k hm) (he k hm)
      · simp only [wipe, List.set_set]
        exact ((n.mono e1).mono A.2.1).set (by cases k <;> exact rfl) j
      · have := filterMap_len f (ks.take i)
        have := List.length_take_le' i ks
        have : ks.length = kvs.length := by rw [← hks, List.length_map]
        omega
    · obtain ⟨_, ex, acc, c, d, _⟩ := A
      rw [show kvs.length = ks.length by rw [← hks, List.length_map], List.take_length] at d
      exact q _ H' (e1.trans ex) ⟨p, acc, rfl, c, d⟩
theorem lock_ex {H1 : Hp} (hD : H a = some (.dK kvs)) (e : Ex H H1) : Ex (upd H a (.frz od (.dK kvs))) (upd H1 a (.frz od (.dK kvs))) := fun b o h => by
  by_cases c : b = a
  · subst c
    rw [upd_same] at h ⊢
    exact h
  · rw [upd_ne c] at h ⊢
    exact e b o h
theorem unlock_ex {H1 : Hp} (hD : H a = some (.dK kvs)) (e : Ex (upd H a (.frz od (.dK kvs))) H1) : H1 a = some (.frz od (.dK kvs)) ∧ Ex H (upd H1 a (.dK kvs)) := by
  refine ⟨e _ _ upd_same, fun b o h => ?_⟩
  by_cases c : b = a
  · subst c
    rw [hD] at h
    rw [upd_same, ← h]
  · rw [upd_ne c]
    exact e b o (by rw [upd_ne c]; exact h)
theorem Is.unlock {d : D} {v : V} {o : HO} (hL : H a = some (.frz od (.dK kvs))) (h : Is H d v) : Is (upd H a o) d v :=
  h.imp (fun b vs q => by rw [upd_ne (ne_of q hL (by intro z; cases z))]; exact q) (fun b vs q => by rw [upd_ne (ne_of q hL (by intro z; cases z))]; exact q)
theorem EnvOk.unlock {σ : St} {o : HO} (hL : H a = some (.frz od (.dK kvs))) (h : EnvOk H σ ds) : EnvOk (upd H a o) σ ds :=
  h.imp (fun b vs q => by rw [upd_ne (ne_of q hL (by intro z; cases z))]; exact q) (fun b vs q => by rw [upd_ne (ne_of q hL (by intro z; cases z))]; exact q)
theorem ev_lock (hD : H a = some (.dK kvs)) (h : ∀ od, EvD te ds (upd H a (.frz od (.dK kvs))) d) : EvD (tLockE te) ds H d := fun σ H1 e n Q q =>
  ⟨a, _, e _ _ hD, trivial, fun od => h od σ _ (lock_ex hD e) (n.upd_dK (e _ _ hD)) _ fun v H2 e2 hv => by
    obtain ⟨h1, h2⟩ := unlock_ex (e _ _ hD) e2
    exact ⟨h1, q _ _ h2 (hv.unlock h1)⟩⟩
theorem ret_lockAsg {tz : TS} {i : Nat} {x : D} (hD : H a = some (.dK kvs)) (h : ∀ od, EvD te ds (upd H a (.frz od (.dK kvs))) x) (k : Ret tz (ds.set i (some x)) H d) : Ret (tSeq (tLock (tAsg te (gName i))) tz) ds H d := fun σ H1 e n E q =>
  ⟨a, _, e _ _ hD, trivial, fun od => h od σ _ (lock_ex hD e) (n.upd_dK (e _ _ hD)) _ fun v H2 e2 hv => by
    obtain ⟨h1, h2⟩ := unlock_ex (e _ _ hD) e2
    exact ⟨h1, k _ _ (e.trans h2) ((n.mono h2).set (hv.unlock h1) i) E fun v H3 e3 hd => q v H3 (h2.trans e3) hd⟩⟩
/-- over a tuple -/
theorem ev_lcT {xs : List D} (f : D → Option D) (hl : EvD tl ds H (.tup xs)) (hz : xs.length < 1000000) (ht : ∀ x ∈ xs, EvB tt (ds.set j (some x)) H (f x).isSome)
    (he : ∀ x ∈ xs, ∀ y, f x = some y → EvD te (ds.set j (some x)) H y ∧ y.pure = true) : EvD (tLc (iTup K tl) (gName j) tt te [j]) ds H (.lst (xs.filterMap f)) := fun σ H0 e n Q q =>
  hl σ H0 e n _ fun v H1 e1 hv => by
    obtain ⟨a, vs, rfl, ha, hvs⟩ := hv
    refine ⟨a, rfl, ⟨vs, SqT.of ha⟩, fun p hp => lc_tup (xs := vs) (fun i H' => Acc H1 p ((xs.take i).filterMap f) H') (Acc.zero hp) (fun i H' _ A => SqT.of (A.2.1 _ _ ha)) (fun i x H' hi A => ?_) fun H' A => ?_⟩
    · obtain ⟨d, hd, hx⟩ := hvs.getV hi
      refine ⟨by simp [wipe], ?_⟩
      rw [fm_take_succ hd]
      have hm : d ∈ xs := List.mem_of_getElem? hd
      refine lc_turn (ds2 := ds.set j (some d)) (H0 := H) (e.trans e1) A ?_ ?_ (ht d hm) (he d hm)
      · simp only [wipe, List.set_set]
        exact ((n.mono e1).mono A.2.1).set (hx.mono A.2.1) j
      · have := filterMap_len f (xs.take i)
        have := List.length_take_le' i xs
        omega
    · obtain ⟨_, ex, acc, c, d, _⟩ := A
      rw [hvs.len, List.take_length] at d
      exact q _ H' (e1.trans ex) ⟨p, acc, rfl, c, d⟩
theorem eb_yes : EvB tYes ds H true := fun σ H1 _ _ Q q => q H1 (Same.refl _)

/-! ### calls of built-ins -/
variable {xs : List D}
theorem cl_tupleOf : Cl (fun xs H Q => ∃ p ys, xs = [.ref p] ∧ ((SqL K H p ys ∧ ∀ l, H l = none → Q (.ref l) (upd H l (.tup ys))) ∨ (SqT K H p ys ∧ Q (.ref p) H))) H [.lst xs] (.tup xs) := fun H1 e vs hv Q q => by
  obtain ⟨v, r, rfl, ⟨p, us, rfl, hp, hu⟩, hr⟩ := hv
  cases (show _ = _ from hr)
  exact ⟨p, us, rfl, .inl ⟨SqL.of hp, fun l hl => q _ _ (Ex.new hl) ⟨l, us, rfl, upd_same, hu.mono (Ex.new hl)⟩⟩⟩
theorem cl_listOf : Cl (fun xs H Q => ∃ p ys, xs = [.ref p] ∧ (SqL K H p ys ∨ SqT K H p ys) ∧ ∀ l, H l = none → Q (.ref l) (upd H l (.lst ys))) H [.lst xs] (.lst xs) := fun H1 e vs hv Q q => by
  obtain ⟨v, r, rfl, ⟨p, us, rfl, hp, hu⟩, hr⟩ := hv
  cases (show _ = _ from hr)
  exact ⟨p, us, rfl, .inl (SqL.of hp), fun l hl => q _ _ (Ex.new hl) ⟨l, us, rfl, upd_same, hu.mono (Ex.new hl)⟩⟩
theorem cl_listOfT : Cl (fun xs H Q => ∃ p ys, xs = [.ref p] ∧ (SqL K H p ys ∨ SqT K H p ys) ∧ ∀ l, H l = none → Q (.ref l) (upd H l (.lst ys))) H [.tup xs] (.lst xs) := fun H1 e vs hv Q q => by
  obtain ⟨v, r, rfl, ⟨p, us, rfl, hp, hu⟩, hr⟩ := hv
  cases (show _ = _ from hr)
  exact ⟨p, us, rfl, .inr (SqT.of hp), fun l hl => q _ _ (Ex.new hl) ⟨l, us, rfl, upd_same, hu.mono (Ex.new hl)⟩⟩
theorem cl_lenL : Cl (fun xs H Q => ∃ p ys, xs = [.ref p] ∧ (SqL K H p ys ∨ SqT K H p ys) ∧ Q (.int ys.length) H) H [.lst xs] (.int xs.length) := fun H1 e vs hv Q q => by
  obtain ⟨v, r, rfl, ⟨p, us, rfl, hp, hu⟩, hr⟩ := hv
  cases (show _ = _ from hr)
  exact ⟨p, us, rfl, .inl (SqL.of hp), q _ _ (Same.refl _) (by rw [hu.len]; exact rfl)⟩
theorem cl_lenT : Cl (fun xs H Q => ∃ p ys, xs = [.ref p] ∧ (SqL K H p ys ∨ SqT K H p ys) ∧ Q (.int ys.length) H) H [.tup xs] (.int xs.length) := fun H1 e vs hv Q q => by
  obtain ⟨v, r, rfl, ⟨p, us, rfl, hp, hu⟩, hr⟩ := hv
  cases (show _ = _ from hr)
  exact ⟨p, us, rfl, .inr (SqT.of hp), q _ _ (Same.refl _) (by rw [hu.len]; exact rfl)⟩
theorem cl_lenS {x : Str} (hl : x.length ≤ 1000000) : Cl (fun xs H Q => ∃ z, xs = [.str z] ∧ z.length ≤ sizeLine ∧ Q (.int z.length) H) H [.str x] (.int x.length) := fun H1 e vs hv Q q => by
  obtain ⟨v, r, rfl, hv, hr⟩ := hv
  cases (show _ = _ from hr)
  cases (show _ = _ from hv)
  exact ⟨x, rfl, Nat.le_trans hl (by decide), q _ _ (Same.refl _) rfl⟩
theorem ints_val (ns : List Int) : (ns.map D.int).map D.val = ns.map V.int := by simp [D.val, Function.comp_def]
theorem ints_flat (ns : List Int) : (ns.map D.int).all D.flat = true := by simp [D.flat]
theorem IsL.ints {ns : List Int} {vs : List V} (h : IsL H (ns.map D.int) vs) : vs = ns.map V.int := by rw [h.flat_eq (ints_flat ns), ints_val]
theorem isL_ints (H : Hp) : ∀ ns : List Int, IsL H (ns.map D.int) (ns.map V.int)
  | [] => rfl
  | n :: ns => ⟨_, _, rfl, rfl, isL_ints H ns⟩
theorem cl_sum {ns : List Int} : Cl (rSum K) H [.lst (ns.map D.int)] (.int ns.sum) := fun H1 e vs hv Q q => by
  obtain ⟨v, r, rfl, ⟨p, us, rfl, hp, hu⟩, hr⟩ := hv
  cases (show _ = _ from hr)
  rw [hu.ints] at hp
  exact ⟨p, ns, rfl, SqL.of hp, q _ _ (Same.refl _) rfl⟩
theorem strs_val (ns : List Str) : (ns.map D.str).map D.val = ns.map V.str := by simp [D.val, Function.comp_def]
theorem strs_flat (ns : List Str) : (ns.map D.str).all D.flat = true := by simp [D.flat]
theorem cl_str {n : Int} (h : n.natAbs.log2 < 1920) : Cl (fun xs H Q => ∃ i, xs = [.int i] ∧ i.natAbs.log2 < 1920 ∧ Q (.str (toString i)) H) H [.int n] (.str (toString n)) := fun H1 e vs hv Q q => by
  obtain ⟨v, r, rfl, hv, hr⟩ := hv
  cases (show _ = _ from hr)
  cases (show _ = _ from hv)
  exact ⟨n, rfl, h, q _ _ (Same.refl _) rfl⟩
end
/-- the one rising list with the same numbers -/
theorem sorted_unique : ∀ {a b : List Int}, a.Perm b → a.Pairwise (· ≤ ·) → b.Pairwise (· ≤ ·) → a = b := fun {a b} p ha hb =>
  List.Perm.eq_of_pairwise (fun x y _ _ h1 h2 => Int.le_antisymm h1 h2) ha hb p
def sortI (ns : List Int) : List Int := ns.mergeSort fun a b => decide (a ≤ b)
theorem sortI_perm (ns : List Int) : (sortI ns).Perm ns := List.mergeSort_perm ns _
theorem sortI_pw (ns : List Int) : (sortI ns).Pairwise (· ≤ ·) := by
  have h := List.pairwise_mergeSort (le := fun a b : Int => decide (a ≤ b)) (fun a b c h1 h2 => by simp at *; omega) (fun a b => by simp; omega) ns
  exact h.imp fun {a b} h => by simpa using h
theorem sortI_of {a b : List Int} (p : a.Perm b) (h : a.Pairwise (· ≤ ·)) : a = sortI b := sorted_unique (p.trans (sortI_perm b).symm) h (sortI_pw b)
section
variable {K : PySem.W.Frag} {H : Hp} {a : Addr}
theorem cl_sortedI {ns : List Int} : Cl (rSortedI K) H [.lst (ns.map D.int)] (.lst ((sortI ns).map D.int)) := fun H1 e vs hv Q q => by
  obtain ⟨v, r, rfl, ⟨p, us, rfl, hp, hu⟩, hr⟩ := hv
  cases (show _ = _ from hr)
  rw [hu.ints] at hp
  refine ⟨p, ns, rfl, SqL.of hp, ?_⟩
  intro ns' l pm pw hl
  rw [sortI_of pm pw]
  exact q _ _ (Ex.new hl) ⟨l, _, rfl, upd_same, isL_ints _ _⟩
theorem cl_sortedDI {kds : List (Key × D)} {ns : List Int} (h : DAt H a kds) (hk : kds.map (·.1) = ns.map Sum.inl) (hl : ns.length < 64) : Cl (fun xs H Q => ∃ (a : Addr) (kvs : List (Key × V)) (ks : List Int), xs = [.ref a] ∧ Rd H a (.dK kvs) ∧ kvs.map (·.1) = ks.map Sum.inl ∧ ks.length < 64 ∧
    ∀ (ys : List Int) (p : Addr), ys.Perm ks → ys.Pairwise (· ≤ ·) → H p = none → Q (.ref p) (upd H p (.lst (ys.map V.int)))) H [.obj a] (.lst ((sortI ns).map D.int)) := fun H1 e vs hv Q q => by
  obtain ⟨v, r, rfl, hv, hr⟩ := hv
  cases (show _ = _ from hr)
  cases (show _ = _ from hv)
  obtain ⟨kvs, r, w⟩ := h.mono e
  refine ⟨a, kvs, ns, rfl, r, by rw [w.keys, hk], hl, fun ys p pm pw hp => ?_⟩
  rw [sortI_of pm pw]
  exact q _ _ (Ex.new hp) ⟨p, _, rfl, upd_same, isL_ints _ _⟩
theorem isL_keys (H : Hp) : ∀ kds : List (Key × D), IsL H (kds.map fun p => keyD p.1) (kds.map fun p => kV p.1)
  | [] => rfl
  | (.inl i, _) :: r => ⟨_, _, rfl, rfl, isL_keys H r⟩
  | (.inr x, _) :: r => ⟨_, _, rfl, rfl, isL_keys H r⟩
theorem cl_listD {kds : List (Key × D)} (h : DOn H a kds) : Cl rListD H [.obj a] (.lst (kds.map fun p => keyD p.1)) := fun H1 e vs hv Q q => by
  obtain ⟨v, r, rfl, hv, hr⟩ := hv
  cases (show _ = _ from hr)
  cases (show _ = _ from hv)
  obtain ⟨kvs, r, w⟩ := h.mono e
  refine ⟨a, kvs, rfl, r, fun p hp => q _ _ (Ex.new hp) ⟨p, _, rfl, upd_same, ?_⟩⟩
  have e2 : (kvs.map fun kv => kV kv.1) = (kds.map fun p => kV p.1) := by
    have := congrArg (List.map kV) w.keys
    rw [List.map_map, List.map_map] at this
    exact this
  rw [e2]
  exact isL_keys _ kds
end
end Cs
set_option Elab.async false
set_option linter.all false
set_option maxRecDepth 100000
set_option maxHeartbeats 4000000
namespace Cs
open PySem PySem.Spec PyProof.Rows L2
/-- a def at f keeps the promise sp, called by position -/
def Fk (P : Program) (w : World) (K : PySem.W.Frag) (mg : Str → Option Value) (base : Heap) (k : Nat) (f : Addr) (ps : List Str) (sp : Sp) : Prop :=
  ∃ fd : FuncData, FnOk P w K mg base (L2.CX P w) k f fd ps sp ∧ Binds K fd ps [] ∧ PySem.W.keepIn K (.ref f) = true
/-- what the head tells of a def -/
def Df (K : PySem.W.Frag) (x qual : Str) (st : Stmt) (f : Addr) (ps : List Str) : Prop :=
  ∃ fd : FuncData, FunD K x qual (defArgs st) (defBody st) (defScope st) [] [] f fd ∧ Binds K fd ps []
section
variable {P : Program} {w : World} {K : PySem.W.Frag} {mg : Str → Option Value} {base : Heap} {k j : Nat} {f : Addr} {ps N : List Str} {sp sp' : Sp} {x qual : Str} {st : Stmt}
theorem Fk.mono (F : Fk P w K mg base j f ps sp) (h : j ≤ k) : Fk P w K mg base k f ps sp := let ⟨fd, a, b, c⟩ := F; ⟨fd, a.mono h, b, c⟩
theorem Fk.imp (F : Fk P w K mg base k f ps sp) (h : ∀ vs H Q E, sp' vs H Q E → sp vs H Q E) : Fk P w K mg base k f ps sp' := let ⟨fd, a, b, c⟩ := F; ⟨fd, a.imp h, b, c⟩
theorem mk_fk (F : Df K x qual st f ps) (S : FnScope N ps (defScope st)) (len : ∀ vs H Q E, sp vs H Q E → vs.length = ps.length)
    (hbody : ∀ (cdv : Value) (A : Around) (outer : List Env) (s : Shared) (H : Hp) (vs : List V) (Q : VK) (E : XK), Room k (A.deeper (envOfC qual (defScope st) s.heap.objs.size f cdv)) → sp vs H Q E →
      ∃ t, PSs (cxOf (L2.CX P w) P w K mg base N qual (defScope st) f cdv A outer s H E) (defBody st) t ∧ t { nx := fun _ H' => Q .non H', rt := Q } (start N vs) H) : Fk P w K mg base (k + 1) f ps sp := by
  obtain ⟨fd, F, b⟩ := F
  exact ⟨fd, F.ok S len hbody, b, F.kp⟩
/-- .. for a promise by data -/
theorem mk_rsp {Pre : Hp → List D → D → Prop} {n : Nat} (F : Df K x qual st f ps) (S : FnScope N ps (defScope st)) (hlen : ∀ H as d, Pre H as d → as.length = ps.length) (hN : ps.length ≤ N.length)
    (hbody : ∀ (cdv : Value) (A : Around) (outer : List Env) (s : Shared) (H H0 : Hp) (E : XK) (as : List D) (d : D), Room k (A.deeper (envOfC qual (defScope st) s.heap.objs.size f cdv)) → Pre H as d →
      ∃ t, PSs (cxOf (L2.CX P w) P w K mg base N qual (defScope st) f cdv A outer s H0 E) (defBody st) t ∧ Ret t (as.map some ++ List.replicate (N.length - as.length) none) H d) : Fk P w K mg base (k + 1) f ps (rsp Pre) := by
  refine mk_fk F S (fun vs H Q E h => ?_) fun cdv A outer s H vs Q E hr h => ?_
  · obtain ⟨as, d, hv, hp, _⟩ := h
    rw [hv.len, hlen H as d hp]
  · obtain ⟨as, d, hv, hp, kk⟩ := h
    obtain ⟨t, h1, h2⟩ := hbody cdv A outer s H H E as d hr hp
    exact ⟨t, h1, h2 _ H (Same.refl _) (start_env hv (by rw [hlen H as d hp]; exact hN)) _ fun v H2 e hd => kk v H2 e hd⟩
end
section
variable {X : Cx} {k : Nat} {f C : Addr} {ps : List Str} {sp : Sp} {E : XK} {e o : Expr} {es : List Expr} {x m : Str} {p apos pos : Pos} {t : TA} {ta : TE}
theorem pe_cf (F : Fk X.prog X.w X.K X.mg X.base k f ps sp) (hr : Room k X.A) (hg : Gl X x) (hm : X.mg x = some (.ref f)) (hx : Passes (L2.CX X.prog X.w) X E)
    (ha : PA X (e :: es) t) (hdb : (x == ("__debug__" : Str)) = false := by decide) (he : starEach (e :: es) X.env = (false, eval e X.env) :: starEach es X.env := by rfl) (hpl : (backTo pos (starEach es X.env)).any (·.1) = false := by rfl) :
    PE X (.Call (.Name x p) (e :: es) [] pos) (tCall sp [] E t) := let ⟨_, F, b, c⟩ := F; pe_call F hr hg hm c b .nil hx ha hdb he hpl
theorem pe_cfS {W : WX} (F : Fk X.prog X.w X.K X.mg X.base k f ps sp) (hr : Room k X.A) (hg : Gl X x) (hm : X.mg x = some (.ref f)) (tk : Takes X W)
    (ha : PA X (e :: es) t) (hdb : (x == ("__debug__" : Str)) = false := by decide) (he : starEach (e :: es) X.env = (false, eval e X.env) :: starEach es X.env := by rfl) (hpl : (backTo pos (starEach es X.env)).any (·.1) = false := by rfl) :
    PE X (.Call (.Name x p) (e :: es) [] pos) (tCallS sp (WE W) t) := let ⟨_, F, b, c⟩ := F; pe_callS F hr hg hm c b (fun σ => passAt tk σ) ha hdb he hpl
theorem pe_mf (M : Mk X.K C f) (F : Fk X.prog X.w X.K X.mg X.base k f ps sp) (hr : Room (k + 1) X.A) (hg : Gl X x) (hm : X.mg x = some (.ref C)) (hx : Passes (L2.CX X.prog X.w) X E)
    (ha : PA X (e :: es) t) (hdb : (x == ("__debug__" : Str)) = false := by decide) (he : starEach (e :: es) X.env = (false, eval e X.env) :: starEach es X.env := by rfl) (hpl : (backTo pos (starEach es X.env)).any (·.1) = false := by rfl) :
    PE X (.Call (.Name x p) (e :: es) [] pos) (tMake C sp [] E t) := let ⟨_, F, b, c⟩ := F; pe_make M F hr hg hm b .nil hx ha hdb he hpl
theorem pe_mt {pl : Sem Bool} (he : PE X o ta) (c : Cls X.K C) (hm : Meth X.K C m f) (F : Fk X.prog X.w X.K X.mg X.base k f ps sp) (hr : Room k X.A) (hx : Passes (L2.CX X.prog X.w) X E) (ha : PA X (e :: es) t)
    (hst : starEach (e :: es) X.env = (false, eval e X.env) :: starEach es X.env := by rfl) (hpl : (backTo pos (starEach es X.env)).any (·.1) = false := by rfl)
    (ht : eval (.Call (.Attribute o m apos) (e :: es) [] pos) X.env = (do
      let ov ← eval o X.env
      standAt apos.atName
      let (f, first) ← holding [ov] (getMethod ov m pl)
      callWith pos f first (backTo pos (starEach (e :: es) X.env)) (backToKw pos (keywordEach [] X.env))) := by rfl) :
    PE X (.Call (.Attribute o m apos) (e :: es) [] pos) (tMeth C m sp [] E ta t) := let ⟨_, F, b, _⟩ := F; pe_meth he c hm F hr b .nil hx ha hst hpl ht
theorem pe_mt0 {pl : Sem Bool} (he : PE X o ta) (c : Cls X.K C) (hm : Meth X.K C m f) (F : Fk X.prog X.w X.K X.mg X.base k f ps sp) (hr : Room k X.A) (hx : Passes (L2.CX X.prog X.w) X E)
    (ht : eval (.Call (.Attribute o m apos) [] [] pos) X.env = (do
      let ov ← eval o X.env
      standAt apos.atName
      let (f, first) ← holding [ov] (getMethod ov m pl)
      callWith pos f first (backTo pos (starEach [] X.env)) (backToKw pos (keywordEach [] X.env))) := by rfl) :
    PE X (.Call (.Attribute o m apos) [] [] pos) (tMeth C m sp [] E ta tNil) := let ⟨_, F, b, _⟩ := F; pe_meth0 he c hm F hr b .nil hx ht
end
theorem room_hu {k : Nat} {A : Around} (hr : Room k A) : A.units + 1 < cLine := hu_of hr
end Cs
set_option Elab.async false
set_option linter.all false
set_option maxRecDepth 100000
set_option maxHeartbeats 4000000
namespace Cs
open PySem L2

/-! ### tables by numbers -/
def get {α : Type} (l : List (Int × α)) (n : Int) : Option α := (l.find? fun p => decide (p.1 = n)).map (·.2)
def put {α : Type} (l : List (Int × α)) (n : Int) (a : α) : List (Int × α) := if (get l n).isSome = true then l.map (fun p => if p.1 = n then (p.1, a) else p) else l ++ [(n, a)]
def drop {α : Type} (l : List (Int × α)) (n : Int) : List (Int × α) := l.filter fun p => decide (p.1 ≠ n)
def kds {α : Type} (f : α → D) (l : List (Int × α)) : List (Key × D) := l.map fun p => (Sum.inl p.1, f p.2)
section
variable {α : Type} {f : α → D} {l : List (Int × α)} {n : Int}
theorem get_nil : get ([] : List (Int × α)) n = none := rfl
theorem get_pos {p : Int × α} {r : List (Int × α)} (e : p.1 = n) : get (p :: r) n = some p.2 := by simp [get, List.find?_cons, e]
theorem get_neg {p : Int × α} {r : List (Int × α)} (e : ¬ p.1 = n) : get (p :: r) n = get r n := by simp [get, List.find?_cons, e]
theorem kds_get : ∀ l : List (Int × α), valD (kds f l) (Sum.inl n) = (get l n).map f
  | [] => rfl
  | p :: r => by
    by_cases e : p.1 = n
    · rw [get_pos e]
      exact valD_pos (p := (Sum.inl p.1, f p.2)) (congrArg Sum.inl e)
    · rw [get_neg e, ← kds_get r]
      exact valD_neg (p := (Sum.inl p.1, f p.2)) (fun q => e (Sum.inl.inj q))
theorem kds_keys : (kds f l).map (·.1) = (l.map (·.1)).map Sum.inl := by simp [kds, Function.comp_def]
theorem kds_len : (kds f l).length = l.length := by simp [kds]
theorem kds_put (a : α) : putD (kds f l) (Sum.inl n) (f a) = kds f (put l n a) := by
  unfold putD put
  rw [kds_get, Option.isSome_map]
  by_cases c : (get l n).isSome = true
  · rw [if_pos c, if_pos c]
    unfold kds
    rw [List.map_map, List.map_map]
    refine List.map_congr_left fun p _ => ?_
    show (if (Sum.inl p.1 : Key) = Sum.inl n then _ else _) = _
    by_cases e : p.1 = n
    · rw [if_pos (congrArg Sum.inl e)]
      simp [e]
    · rw [if_neg (fun q => e (Sum.inl.inj q))]
      simp [e]
  · rw [if_neg c, if_neg c]
    simp [kds]
theorem kds_drop : dropD (kds f l) (Sum.inl n) = kds f (drop l n) := by
  unfold dropD drop kds
  rw [List.filter_map]
  congr 1
  refine List.filter_congr fun p _ => ?_
  simp [Function.comp_def]
end

/-! ### houses as data -/
structure Row where
  par : Option Int
  name : Str
  text : Option Str
  deriving DecidableEq
structure HS where
  keep : Int
  room : Int
  rows : List (Int × Row)
  shelved : List (Int × Int)
  casts : List (Int × Int)
  pairs : List (Int × Int)
  today : Int
  count : Int
def oI : Option Int → D
  | none => .non
  | some i => .int i
def oS : Option Str → D
  | none => .non
  | some x => .str x
def Row.d (r : Row) : D := .tup [oI r.par, .str r.name, oS r.text]
def pairD (p : Int × Int) : D := .tup [.int p.1, .int p.2]
theorem oI_flat (o : Option Int) : (oI o).flat = true := by cases o <;> rfl
theorem oS_flat (o : Option Str) : (oS o).flat = true := by cases o <;> rfl
theorem oI_val {a b : Option Int} : decide ((oI a).val = (oI b).val) = decide (a = b) := by cases a <;> cases b <;> simp [oI, D.val]
theorem oI_scal (a b : Option Int) : scal (oI a).val (oI b).val = true := by cases a <;> cases b <;> rfl
theorem Row.pure (r : Row) : r.d.pure = true := by
  obtain ⟨p, n, t⟩ := r
  cases p <;> cases t <;> rfl
theorem pairD_pure (p : Int × Int) : (pairD p).pure = true := rfl
def isSheet : Option Row → Bool
  | some r => r.text.isSome
  | none => true
namespace HS
def keys (h : HS) : List Int := h.rows.map (·.1)
def there (h : HS) (n : Int) : Bool := (get h.rows n).isSome && !(get h.shelved n).isSome
def namesIn (h : HS) (par but : Option Int) : List Str := (h.keys.filter fun n => h.there n && decide (some n ≠ but)).filterMap fun n => (get h.rows n).bind fun r => if r.par = par then some r.name else none
def noBox (h : HS) : Option Int → Bool
  | none => false
  | some n => !h.there n || isSheet (get h.rows n)
end HS
theorem filterMap_if {α β : Type} {c : α → Bool} {f : α → β} (xs : List α) : xs.filterMap (fun x => if c x = true then some (f x) else none) = (xs.filter c).map f := by
  induction xs with
  | nil => rfl
  | cons x xs ih => by_cases h : c x = true <;> simp [h, ih]

section
variable {K : PySem.W.Frag} {ds : List (Option D)} {H : Hp} {td te tl : TE} {tt : TT} {j : Nat} {a : Addr} {od : Obj} {kvs : List (Key × V)}
theorem ev_lcKI {ns : List Int} (hL : H a = some (.frz od (.dK kvs))) (hks : kvs.map (·.1) = ns.map Sum.inl) (g : Int → Option D) (hd : EvD td ds H (.obj a)) (hz : ns.length < 1000000) (ht : ∀ n ∈ ns, EvB tt (ds.set j (some (.int n))) H (g n).isSome)
    (he : ∀ n ∈ ns, ∀ y, g n = some y → EvD te (ds.set j (some (.int n))) H y ∧ y.pure = true) : EvD (tLc (iKeys td) (gName j) tt te [j]) ds H (.lst (ns.filterMap g)) := by
  have e : (ns.map (Sum.inl : Int → Key)).filterMap (fun k => match k with | .inl n => g n | .inr _ => none) = ns.filterMap g := by
    rw [List.filterMap_map]
    rfl
  rw [← e]
  refine ev_lcKey hL hks _ hd ?_ (fun k hk => ?_) (fun k hk => ?_)
  · rw [← List.length_map (f := (·.1)), hks, List.length_map]
    exact hz
  · obtain ⟨n, hn, rfl⟩ := List.mem_map.mp hk
    exact ht n hn
  · obtain ⟨n, hn, rfl⟩ := List.mem_map.mp hk
    exact he n hn
theorem ev_lcLI {ns : List Int} (g : Int → Option D) (hl : EvD tl ds H (.lst (ns.map D.int))) (hz : ns.length < 1000000) (ht : ∀ n ∈ ns, EvB tt (ds.set j (some (.int n))) H (g n).isSome)
    (he : ∀ n ∈ ns, ∀ y, g n = some y → EvD te (ds.set j (some (.int n))) H y ∧ y.pure = true) : EvD (tLc (iList K tl) (gName j) tt te [j]) ds H (.lst (ns.filterMap g)) := by
  have e : (ns.map D.int).filterMap (fun d => match d with | .int n => g n | _ => none) = ns.filterMap g := by
    rw [List.filterMap_map]
    rfl
  rw [← e]
  refine ev_lcL _ hl (by rw [List.length_map]; exact hz) (fun k hk => ?_) (fun k hk => ?_)
  · obtain ⟨n, hn, rfl⟩ := List.mem_map.mp hk
    exact ht n hn
  · obtain ⟨n, hn, rfl⟩ := List.mem_map.mp hk
    exact he n hn
/-- over a list of pairs, a pair of names -/
theorem ev_lcP2 {ps : List (Int × Int)} {j1 j2 : Nat} (hj : j1 ≠ j2) (g : Int × Int → Option D) (hl : EvD tl ds H (.lst (ps.map pairD))) (hz : ps.length < 1000000) (ht : ∀ p ∈ ps, EvB tt ((ds.set j1 (some (.int p.1))).set j2 (some (.int p.2))) H (g p).isSome)
    (he : ∀ p ∈ ps, ∀ y, g p = some y → EvD te ((ds.set j1 (some (.int p.1))).set j2 (some (.int p.2))) H y ∧ y.pure = true) :
    EvD (tLc (iList K tl) (gTup K 2 (gCons (gName j1) (gCons (gName j2) gNil))) tt te [j1, j2]) ds H (.lst (ps.filterMap g)) := by
  have e : (ps.map pairD).filterMap (fun d => match d with | .tup [.int a, .int b] => g (a, b) | _ => none) = ps.filterMap g := by
    rw [List.filterMap_map]
    rfl
  rw [← e]
  refine ev_lcL2 hj _ hl (by rw [List.length_map]; exact hz) (fun x hx => ?_) (fun y z hx => ?_) (fun y z hx => ?_)
  · obtain ⟨p, _, rfl⟩ := List.mem_map.mp hx
    exact ⟨_, _, rfl⟩
  · obtain ⟨p, hp, q⟩ := List.mem_map.mp hx
    cases q
    exact ht p hp
  · obtain ⟨p, hp, q⟩ := List.mem_map.mp hx
    cases q
    exact he p hp
/-- .. one name -/
theorem ev_lcP {ps : List (Int × Int)} (g : Int × Int → Option D) (hl : EvD tl ds H (.lst (ps.map pairD))) (hz : ps.length < 1000000) (ht : ∀ p ∈ ps, EvB tt (ds.set j (some (pairD p))) H (g p).isSome)
    (he : ∀ p ∈ ps, ∀ y, g p = some y → EvD te (ds.set j (some (pairD p))) H y ∧ y.pure = true) : EvD (tLc (iList K tl) (gName j) tt te [j]) ds H (.lst (ps.filterMap g)) := by
  have e : (ps.map pairD).filterMap (fun d => match d with | .tup [.int a, .int b] => g (a, b) | _ => none) = ps.filterMap g := by
    rw [List.filterMap_map]
    rfl
  rw [← e]
  refine ev_lcL _ hl (by rw [List.length_map]; exact hz) (fun k hk => ?_) (fun k hk => ?_)
  · obtain ⟨p, hp, rfl⟩ := List.mem_map.mp hk
    exact ht p hp
  · obtain ⟨p, hp, rfl⟩ := List.mem_map.mp hk
    exact he p hp
end

/-! ### a house in the heap -/
structure Foot where
  dx : Addr
  rows : Addr
  shelved : Addr
  casts : Addr
  pairs : Addr
def flds (F : Foot) (h : HS) : List (Str × V) := [("keep", .int h.keep), ("room", .int h.room), ("rows", .ref F.rows), ("shelved", .ref F.shelved), ("casts", .ref F.casts), ("pairs", .ref F.pairs), ("today", .int h.today), ("count", .int h.count)]
/-- to be read (a dict may be locked) -/
structure HRd (C : Addr) (H : Hp) (p : Addr) (F : Foot) (h : HS) : Prop where
  ob : H p = some (.ins C F.dx (flds F h))
  rw : DAt H F.rows (kds Row.d h.rows)
  sh : DAt H F.shelved (kds D.int h.shelved)
  ca : Is H (.lst (h.casts.map pairD)) (.ref F.casts)
  pa : Is H (.lst (h.pairs.map pairD)) (.ref F.pairs)
structure HAt (C : Addr) (H : Hp) (p : Addr) (F : Foot) (h : HS) : Prop where
  ob : H p = some (.ins C F.dx (flds F h))
  rw : DOn H F.rows (kds Row.d h.rows)
  sh : DOn H F.shelved (kds D.int h.shelved)
  ca : Is H (.lst (h.casts.map pairD)) (.ref F.casts)
  pa : Is H (.lst (h.pairs.map pairD)) (.ref F.pairs)
  n1 : F.rows ≠ F.shelved
  n2 : F.casts ≠ F.pairs
section
variable {C p a : Addr} {H H' : Hp} {F : Foot} {h : HS}
theorem HAt.rd (x : HAt C H p F h) : HRd C H p F h := ⟨x.ob, x.rw.at, x.sh.at, x.ca, x.pa⟩
theorem HRd.mono (e : Ex H H') (x : HRd C H p F h) : HRd C H' p F h := ⟨e _ _ x.ob, x.rw.mono e, x.sh.mono e, x.ca.mono e, x.pa.mono e⟩
theorem HAt.mono (e : Ex H H') (x : HAt C H p F h) : HAt C H' p F h := ⟨e _ _ x.ob, x.rw.mono e, x.sh.mono e, x.ca.mono e, x.pa.mono e, x.n1, x.n2⟩
theorem DAt.lock {kd : List (Key × D)} {kvs : List (Key × V)} {od : Obj} {b : Addr} (hb : H b = some (.dK kvs)) (h : DAt H a kd) : DAt (upd H b (.frz od (.dK kvs))) a kd := by
  obtain ⟨kv, r, w⟩ := h
  refine ⟨kv, ?_, w.upd_dK hb⟩
  by_cases e : a = b
  · subst e
    rcases r with r | ⟨o, r⟩
    · rw [hb] at r
      cases r
      exact .inr ⟨od, upd_same⟩
    · rw [hb] at r
      cases r
  · rcases r with r | ⟨o, r⟩
    · exact .inl (by rw [upd_ne e]; exact r)
    · exact .inr ⟨o, by rw [upd_ne e]; exact r⟩
theorem HRd.lock {kvs : List (Key × V)} {od : Obj} {b : Addr} (hb : H b = some (.dK kvs)) (x : HRd C H p F h) : HRd C (upd H b (.frz od (.dK kvs))) p F h :=
  ⟨by rw [upd_ne (ne_of x.ob hb (by intro z; cases z))]; exact x.ob, x.rw.lock hb, x.sh.lock hb, x.ca.upd_dK hb, x.pa.upd_dK hb⟩
theorem fl_keep : (flds F h).lookup ("keep" : Str) = some (.int h.keep) := rfl
theorem fl_room : (flds F h).lookup ("room" : Str) = some (.int h.room) := rfl
theorem fl_rows : (flds F h).lookup ("rows" : Str) = some (.ref F.rows) := rfl
theorem fl_shelved : (flds F h).lookup ("shelved" : Str) = some (.ref F.shelved) := rfl
theorem fl_casts : (flds F h).lookup ("casts" : Str) = some (.ref F.casts) := rfl
theorem fl_pairs : (flds F h).lookup ("pairs" : Str) = some (.ref F.pairs) := rfl
theorem fl_today : (flds F h).lookup ("today" : Str) = some (.int h.today) := rfl
theorem fl_count : (flds F h).lookup ("count" : Str) = some (.int h.count) := rfl
end
end Cs
set_option Elab.async false
set_option linter.all false
set_option maxRecDepth 100000
set_option maxHeartbeats 4000000
namespace Cs
open PySem PySem.Spec PyProof.Rows L2
theorem fm_congr {α β : Type} {f g : α → Option β} : ∀ {xs : List α}, (∀ x ∈ xs, f x = g x) → xs.filterMap f = xs.filterMap g
  | [], _ => rfl
  | x :: xs, h => by
    rw [List.filterMap_cons, List.filterMap_cons, h x (by simp), fm_congr fun y hy => h y (by simp [hy])]
/-! ### statements: from here on, with these ends -/
def Go (ts : TS) (ds : List (Option D)) (H : Hp) (E : Ends) : Prop := ∀ σ H1, Ex H H1 → EnvOk H1 σ ds → ts E σ H1
inductive Res where
  | ok (d : D)
  | err (x : Str)
/-- an expression that may raise -/
def EvX (K : PySem.W.Frag) (E : XK) (te : TE) (ds : List (Option D)) (H : Hp) (r : Res) : Prop := ∀ σ H1, Ex H H1 → EnvOk H1 σ ds → ∀ Q : VK, (∀ d, r = .ok d → ∀ v H2, Ex H1 H2 → Is H2 d v → Q v H2) → (∀ x, r = .err x → ∀ H2, Ex H1 H2 → E (.ref (He.ga K x)) none H2) → te σ H1 Q
/-- a promise that may be refused -/
def PrX (K : PySem.W.Frag) (sp : Sp) (H : Hp) (as : List D) (r : Res) : Prop := ∀ H1, Ex H H1 → ∀ vs, IsL H1 as vs → ∀ (Q : VK) (E : XK), (∀ d, r = .ok d → ∀ v H2, Ex H1 H2 → Is H2 d v → Q v H2) → (∀ x, r = .err x → ∀ H2, Ex H1 H2 → E (.ref (He.ga K x)) none H2) → sp vs H1 Q E
/-- read, or refused -/
def rspX (K : PySem.W.Frag) (Pre : Hp → List D → Res → Prop) : Sp := fun vs H Q E => ∃ as r, IsL H as vs ∧ Pre H as r ∧ (∀ d, r = .ok d → ∀ v H', Ex H H' → Is H' d v → Q v H') ∧ (∀ x, r = .err x → ∀ H', Ex H H' → E (.ref (He.ga K x)) none H')
theorem rspX_pr {K : PySem.W.Frag} {Pre : Hp → List D → Res → Prop} {H : Hp} {as : List D} {r : Res} (h : ∀ H', Ex H H' → Pre H' as r) : PrX K (rspX K Pre) H as r := fun H1 e vs hv Q E k1 k2 => ⟨as, r, hv, h H1 e, k1, k2⟩
section
variable {K : PySem.W.Frag} {ds : List (Option D)} {H H' : Hp} {ta tb te : TE} {t : TT} {d x : D} {tu tw tz : TS} {E : Ends} {X : XK} {r : Res}
theorem Go.mono (e : Ex H H') (h : Go tu ds H E) : Go tu ds H' E := fun σ H1 x n => h σ H1 (e.trans x) n
theorem EvD.toX (h : EvD te ds H d) : EvX K X te ds H (.ok d) := fun σ H1 e n Q k1 _ => h σ H1 e n Q fun v H2 e2 hv => k1 d rfl v H2 e2 hv
theorem ex_meth {C p dx : Addr} {m : Str} {sp : Sp} {tr : TA} {as : List D} {fs : List (Str × V)} (ho : EvD ta ds H (.obj p)) (hi : H p = some (.ins C dx fs)) (hm : fs.lookup m = none) (h : EvA tr ds H as) (hp : PrX K sp H (.obj p :: as) r) : EvX K X (tMeth C m sp [] X ta tr) ds H r := fun σ H1 e n Q k1 k2 =>
  ho σ H1 e n _ fun x H2 e2 hx => ⟨p, dx, fs, hx, (e.trans e2) _ _ hi, hm, h σ H2 (e.trans e2) (n.mono e2) _ fun vs H3 e3 hv => by
    rw [List.append_nil]
    exact hp H3 ((e.trans e2).trans e3) _ (.cons (hx.mono e3) hv) Q X (fun d hd v H4 e4 q => k1 d hd v H4 ((e2.trans e3).trans e4) q) fun x hx H4 e4 => k2 x hx H4 ((e2.trans e3).trans e4)⟩
theorem ex_call {sp : Sp} {tr : TA} {as : List D} (h : EvA tr ds H as) (hp : PrX K sp H as r) : EvX K X (tCall sp [] X tr) ds H r := fun σ H1 e n Q k1 k2 =>
  h σ H1 e n _ fun vs H2 e2 hv => by
    rw [List.append_nil]
    exact hp H2 (e.trans e2) vs hv Q X (fun d hd v H4 e4 q => k1 d hd v H4 (e2.trans e4) q) fun x hx H4 e4 => k2 x hx H4 (e2.trans e4)
theorem go_asg {i : Nat} (h : EvD te ds H x) (k : Go tz (ds.set i (some x)) H E) : Go (tSeq (tAsg te (gName i)) tz) ds H E := fun σ H1 e n =>
  h σ H1 e n _ fun v H2 e2 hv => k _ H2 (e.trans e2) ((n.mono e2).set hv i)
theorem go_asgX {i : Nat} (h : EvX K X te ds H r) (k : ∀ d, r = .ok d → Go tz (ds.set i (some d)) H E) (kx : ∀ x, r = .err x → ∀ H2, Ex H H2 → X (.ref (He.ga K x)) none H2) : Go (tSeq (tAsg te (gName i)) tz) ds H E := fun σ H1 e n =>
  h σ H1 e n _ (fun d hd v H2 e2 hv => k d hd _ H2 (e.trans e2) ((n.mono e2).set hv i)) fun x hx H2 e2 => kx x hx H2 (e.trans e2)
theorem go_do (h : EvD te ds H x) (k : Go tz ds H E) : Go (tSeq (tDrop te) tz) ds H E := fun σ H1 e n =>
  h σ H1 e n _ fun v H2 e2 hv => k _ H2 (e.trans e2) (n.mono e2)
theorem go_doX (h : EvX K X te ds H r) (k : ∀ d, r = .ok d → Go tz ds H E) (kx : ∀ x, r = .err x → ∀ H2, Ex H H2 → X (.ref (He.ga K x)) none H2) : Go (tSeq (tDrop te) tz) ds H E := fun σ H1 e n =>
  h σ H1 e n _ (fun d hd v H2 e2 hv => k d hd _ H2 (e.trans e2) (n.mono e2)) fun x hx H2 e2 => kx x hx H2 (e.trans e2)
theorem go_when {b : Bool} (h : EvB t ds H b) (h1 : b = true → Go tu ds H { E with nx := tz E }) (h2 : b = false → Go tz ds H E) : Go (tSeq (tIfS t tu tNext) tz) ds H E := fun σ H1 e n =>
  h σ H1 e n _ fun H2 e2 => by
    cases b with
    | true => exact iteT (h1 rfl σ H2 (e.trans e2) (n.mono e2))
    | false => exact iteF (h2 rfl σ H2 (e.trans e2) (n.mono e2))
theorem go_if {b : Bool} (h : EvB t ds H b) (h1 : b = true → Go tu ds H E) (h2 : b = false → Go tw ds H E) : Go (tIfS t tu tw) ds H E := fun σ H1 e n =>
  h σ H1 e n _ fun H2 e2 => by
    cases b with
    | true => exact iteT (h1 rfl σ H2 (e.trans e2) (n.mono e2))
    | false => exact iteF (h2 rfl σ H2 (e.trans e2) (n.mono e2))
theorem go_ifs {b : Bool} (h : EvB t ds H b) (h1 : b = true → Go tu ds H { E with nx := tz E }) (h2 : b = false → Go tw ds H { E with nx := tz E }) : Go (tSeq (tIfS t tu tw) tz) ds H E := go_if (E := { E with nx := tz E }) h h1 h2
theorem go_next (h : ∀ σ H1, Ex H H1 → EnvOk H1 σ ds → E.nx σ H1) : Go tNext ds H E := h
theorem go_ret (h : EvD te ds H d) (k : ∀ v H1, Ex H H1 → Is H1 d v → E.rt v H1) : Go (tRet te) ds H E := fun σ H1 e n => h σ H1 e n _ fun v H2 e2 hv => k v H2 (e.trans e2) hv
theorem go_retX (h : EvX K X te ds H r) (k : ∀ d, r = .ok d → ∀ v H1, Ex H H1 → Is H1 d v → E.rt v H1) (kx : ∀ x, r = .err x → ∀ H2, Ex H H2 → X (.ref (He.ga K x)) none H2) : Go (tRet te) ds H E := fun σ H1 e n =>
  h σ H1 e n _ (fun d hd v H2 e2 hv => k d hd v H2 (e.trans e2) hv) fun x hx H2 e2 => kx x hx H2 (e.trans e2)
theorem go_raise {x : Str} (h : ∀ H1, Ex H H1 → X (.ref (He.ga K x)) none H1) : Go (fun _ _ H => X (.ref (He.ga K x)) none H) ds H E := fun σ H1 e n => h H1 e
theorem go_un3 {a b c : Nat} {u v w : D} (h : EvD te ds H (.tup [u, v, w])) (k : Go tz (((ds.set a (some u)).set b (some v)).set c (some w)) H E) : Go (tSeq (tAsg te (gTup K 3 (gCons (gName a) (gCons (gName b) (gCons (gName c) gNil))))) tz) ds H E := fun σ H1 e n =>
  h σ H1 e n _ fun x H2 e2 hx => by
    obtain ⟨p, vs, rfl, hp, v1, r1, rfl, h1, v2, r2, rfl, h2, v3, r3, rfl, h3, h4⟩ := hx
    cases (show _ = _ from h4)
    exact ⟨p, _, rfl, SqT.of hp, rfl, _, _, rfl, _, _, rfl, _, _, rfl, rfl, k _ H2 (e.trans e2) ((((n.mono e2).set h1 a).set h2 b).set h3 c)⟩
theorem go_un2 {a b : Nat} {u v : D} (h : EvD te ds H (.tup [u, v])) (k : Go tz ((ds.set a (some u)).set b (some v)) H E) : Go (tSeq (tAsg te (gTup K 2 (gCons (gName a) (gCons (gName b) gNil)))) tz) ds H E := fun σ H1 e n =>
  h σ H1 e n _ fun x H2 e2 hx => by
    obtain ⟨p, vs, rfl, hp, v1, r1, rfl, h1, v2, r2, rfl, h2, h4⟩ := hx
    cases (show _ = _ from h4)
    exact ⟨p, _, rfl, SqT.of hp, rfl, _, _, rfl, _, _, rfl, rfl, k _ H2 (e.trans e2) (((n.mono e2).set h1 a).set h2 b)⟩
theorem go_un4 {a b c f : Nat} {u v w y : D} (h : EvD te ds H (.tup [u, v, w, y])) (k : Go tz ((((ds.set a (some u)).set b (some v)).set c (some w)).set f (some y)) H E) : Go (tSeq (tAsg te (gTup K 4 (gCons (gName a) (gCons (gName b) (gCons (gName c) (gCons (gName f) gNil)))))) tz) ds H E := fun σ H1 e n =>
  h σ H1 e n _ fun x H2 e2 hx => by
    obtain ⟨p, vs, rfl, hp, v1, r1, rfl, h1, v2, r2, rfl, h2, v3, r3, rfl, h3, v4, r4, rfl, h5, h4⟩ := hx
    cases (show _ = _ from h4)
    exact ⟨p, _, rfl, SqT.of hp, rfl, _, _, rfl, _, _, rfl, _, _, rfl, _, _, rfl, rfl, k _ H2 (e.trans e2) (((((n.mono e2).set h1 a).set h2 b).set h3 c).set h5 f)⟩
theorem Go.is_one {tu : TS} (h : Go tu ds H E) : Go tu ds H E := h
end
/-! ### what a house owns; what else stands -/
def fp (p : Addr) (F : Foot) : List Addr := [p, F.rows, F.shelved, F.casts, F.pairs]
def Fr (L : List Addr) (H H' : Hp) : Prop := ∀ b o, H b = some o → b ∉ L → H' b = some o
def Fresh (p : Addr) (H : Hp) (F F' : Foot) : Prop := ∀ b ∈ fp p F', b ∈ fp p F ∨ H b = none
theorem Fr.of_ex {L : List Addr} {H H' : Hp} (e : Ex H H') : Fr L H H' := fun b o h _ => e b o h
theorem Fr.trans_ex {L : List Addr} {H H1 H2 : Hp} (a : Fr L H H1) (e : Ex H1 H2) : Fr L H H2 := fun b o h n => e b o (a b o h n)
theorem Fr.ex_trans {L : List Addr} {H H1 H2 : Hp} (e : Ex H H1) (a : Fr L H1 H2) : Fr L H H2 := fun b o h n => a b o (e b o h) n
theorem Fr.trans {p : Addr} {F F1 : Foot} {H H1 H2 : Hp} (a : Fr (fp p F) H H1) (n : Fresh p H F F1) (b : Fr (fp p F1) H1 H2) : Fr (fp p F) H H2 := fun c o h nc => b c o (a c o h nc) fun hc => by
  rcases n c hc with q | q
  · exact nc q
  · rw [q] at h
    cases h
theorem Fresh.refl {p : Addr} {H : Hp} {F : Foot} : Fresh p H F F := fun b h => .inl h
theorem Fresh.trans {p : Addr} {F F1 F2 : Foot} {H H1 : Hp} (a : Fresh p H F F1) (r : Fr (fp p F) H H1) (b : Fresh p H1 F1 F2) : Fresh p H F F2 := fun c hc => by
  rcases b c hc with q | q
  · exact a c q
  · by_cases h : c ∈ fp p F
    · exact .inl h
    · refine .inr ?_
      cases e : H c with
      | none => rfl
      | some o =>
        rw [r c o e h] at q
        cases q
theorem Fresh.ex {p : Addr} {F F1 : Foot} {H H1 : Hp} (e : Ex H H1) (b : Fresh p H1 F F1) : Fresh p H F F1 := fun c hc => by
  rcases b c hc with q | q
  · exact .inl q
  · exact .inr (e.free q)
section
variable {C p : Addr} {H H' : Hp} {F : Foot} {h : HS}
theorem HAt.rows_ (x : HAt C H p F h) : ∃ kvs, H F.rows = some (.dK kvs) := let ⟨k, e, _⟩ := x.rw; ⟨k, e⟩
theorem HAt.shelved_ (x : HAt C H p F h) : ∃ kvs, H F.shelved = some (.dK kvs) := let ⟨k, e, _⟩ := x.sh; ⟨k, e⟩
theorem HAt.casts_ (x : HAt C H p F h) : ∃ vs, H F.casts = some (.lst vs) ∧ IsL H (h.casts.map pairD) vs := by
  obtain ⟨a, vs, e, q, r⟩ := x.ca
  cases e
  exact ⟨vs, q, r⟩
theorem HAt.pairs_ (x : HAt C H p F h) : ∃ vs, H F.pairs = some (.lst vs) ∧ IsL H (h.pairs.map pairD) vs := by
  obtain ⟨a, vs, e, q, r⟩ := x.pa
  cases e
  exact ⟨vs, q, r⟩
theorem HAt.not_tup (x : HAt C H p F h) {b : Addr} {vs : List V} (hb : H b = some (.tup vs)) : b ∉ fp p F := fun hm => by
  obtain ⟨k1, e1⟩ := x.rows_
  obtain ⟨k2, e2⟩ := x.shelved_
  obtain ⟨k3, e3, _⟩ := x.casts_
  obtain ⟨k4, e4, _⟩ := x.pairs_
  have e0 := x.ob
  simp only [fp, List.mem_cons, List.not_mem_nil, or_false] at hm
  rcases hm with rfl | rfl | rfl | rfl | rfl
  · rw [e0] at hb; cases hb
  · rw [e1] at hb; cases hb
  · rw [e2] at hb; cases hb
  · rw [e3] at hb; cases hb
  · rw [e4] at hb; cases hb
theorem HAt.fp_some (x : HAt C H p F h) {b : Addr} (hm : b ∈ fp p F) : H b ≠ none := fun hb => by
  obtain ⟨k1, e1⟩ := x.rows_
  obtain ⟨k2, e2⟩ := x.shelved_
  obtain ⟨k3, e3, _⟩ := x.casts_
  obtain ⟨k4, e4, _⟩ := x.pairs_
  have e0 := x.ob
  simp only [fp, List.mem_cons, List.not_mem_nil, or_false] at hm
  rcases hm with rfl | rfl | rfl | rfl | rfl
  · rw [e0] at hb; cases hb
  · rw [e1] at hb; cases hb
  · rw [e2] at hb; cases hb
  · rw [e3] at hb; cases hb
  · rw [e4] at hb; cases hb
mutual
theorem Is.tups {H H' : Hp} (ht : ∀ a vs, H a = some (.tup vs) → H' a = some (.tup vs)) : ∀ {d : D} {v : V}, d.pure = true → Is H d v → Is H' d v
  | .non, _, _, h => h
  | .bl _, _, _, h => h
  | .int _, _, _, h => h
  | .str _, _, _, h => h
  | .obj _, _, _, h => h
  | .tup _, _, p, ⟨a, vs, e, q, r⟩ => ⟨a, vs, e, ht a vs q, IsL.tups ht p r⟩
  | .lst _, _, p, _ => by cases (show false = true from p)
theorem IsL.tups {H H' : Hp} (ht : ∀ a vs, H a = some (.tup vs) → H' a = some (.tup vs)) : ∀ {ds : List D} {vs : List V}, D.pureL ds = true → IsL H ds vs → IsL H' ds vs
  | [], _, _, h => h
  | _ :: _, _, p, ⟨v, r, e, h, t⟩ => by
    have p' := Bool.and_eq_true_iff.mp (show (_ && _) = true from p)
    exact ⟨v, r, e, Is.tups ht p'.1 h, IsL.tups ht p'.2 t⟩
end
theorem HAt.keep {d : D} {v : V} (x : HAt C H p F h) (r : Fr (fp p F) H H') (pd : d.pure = true) (hd : Is H d v) : Is H' d v := hd.tups (fun a vs q => r a _ q (x.not_tup q)) pd
def pureE : List (Option D) → Bool
  | [] => true
  | none :: r => pureE r
  | some d :: r => d.pure && pureE r
theorem EnvOk.tups {H H' : Hp} (ht : ∀ a vs, H a = some (.tup vs) → H' a = some (.tup vs)) : ∀ {σ : L2.St} {ds : List (Option D)}, pureE ds = true → EnvOk H σ ds → EnvOk H' σ ds
  | [], [], _, _ => trivial
  | _ :: σ, none :: ds, p, h => EnvOk.tups (σ := σ) (ds := ds) ht p h
  | some v :: σ, some d :: ds, p, ⟨h, t⟩ => by
    have p' := Bool.and_eq_true_iff.mp (show (_ && _) = true from p)
    exact ⟨h.tups ht p'.1, EnvOk.tups ht p'.2 t⟩
theorem HAt.keepE {σ : L2.St} {ds : List (Option D)} (x : HAt C H p F h) (r : Fr (fp p F) H H') (pd : pureE ds = true) (hd : EnvOk H σ ds) : EnvOk H' σ ds := hd.tups (fun a vs q => r a _ q (x.not_tup q)) pd
end
/-- a deed of a house: what is told and what it is then, or refused as it is -/
inductive Out where
  | ok (d : D) (h : HS)
  | err (x : Str)
def wsp (K : PySem.W.Frag) (Pre : HS → List D → Out → Prop) : Sp := fun vs H Q E => ∃ p F h as r, IsL H (.obj p :: as) vs ∧ D.pureL as = true ∧ HAt (He.ga K "House") H p F h ∧ Pre h as r ∧
  (∀ d h', r = .ok d h' → ∀ v H' F', HAt (He.ga K "House") H' p F' h' → Fr (fp p F) H H' → Fresh p H F F' → Is H' d v → Q v H') ∧ (∀ x, r = .err x → ∀ H', Ex H H' → E (.ref (He.ga K x)) none H')
section
variable {K : PySem.W.Frag} {ds : List (Option D)} {H H' : Hp} {ta tb te : TE} {tr : TA} {d : D} {tu tw tz : TS} {E : Ends} {X : XK} {p : Addr} {F : Foot} {h h' : HS} {m : Str} {as : List D} {o : Out} {Pre : HS → List D → Out → Prop}
/-- self.m(..), a deed: as a value -/
theorem w_meth {σ : L2.St} {H1 : Hp} {Q : VK} (x : HAt (He.ga K "House") H p F h) (hm : (flds F h).lookup m = none) (ho : EvD ta ds H (.obj p)) (ha : EvA tr ds H as) (pa : D.pureL as = true) (hp : Pre h as o) (e : Ex H H1) (n : EnvOk H1 σ ds)
    (k1 : ∀ d h', o = .ok d h' → ∀ v H2 F', HAt (He.ga K "House") H2 p F' h' → Fr (fp p F) H1 H2 → Fresh p H1 F F' → EnvOk H2 σ (if pureE ds then ds else []) ∨ True → Is H2 d v → Q v H2) (k2 : ∀ x, o = .err x → ∀ H2, Ex H1 H2 → X (.ref (He.ga K x)) none H2) :
    tMeth (He.ga K "House") m (wsp K Pre) [] X ta tr σ H1 Q :=
  ho σ H1 e n _ fun v H2 e2 hv => ⟨p, F.dx, flds F h, hv, (e.trans e2) _ _ x.ob, hm, ha σ H2 (e.trans e2) (n.mono e2) _ fun vs H3 e3 hvs => by
    rw [List.append_nil]
    refine ⟨p, F, h, as, o, .cons (hv.mono e3) hvs, pa, x.mono ((e.trans e2).trans e3), hp, fun d h' hd v H4 F' y r f hd' => ?_, fun z hz H4 e4 => k2 z hz H4 ((e2.trans e3).trans e4)⟩
    exact k1 d h' hd v H4 F' y (Fr.ex_trans (e2.trans e3) r) (Fresh.ex (e2.trans e3) f) (.inr trivial) hd'⟩
theorem go_retW (x : HAt (He.ga K "House") H p F h) (hm : (flds F h).lookup m = none) (ho : EvD ta ds H (.obj p)) (ha : EvA tr ds H as) (pa : D.pureL as = true) (hp : Pre h as o)
    (k1 : ∀ d h', o = .ok d h' → ∀ v H2 F', HAt (He.ga K "House") H2 p F' h' → Fr (fp p F) H H2 → Fresh p H F F' → Is H2 d v → E.rt v H2) (k2 : ∀ x, o = .err x → ∀ H2, Ex H H2 → X (.ref (He.ga K x)) none H2) :
    Go (tRet (tMeth (He.ga K "House") m (wsp K Pre) [] X ta tr)) ds H E := fun σ H1 e n =>
  w_meth x hm ho ha pa hp e n (fun d h' hd v H2 F' y r f _ hv => k1 d h' hd v H2 F' y (Fr.ex_trans e r) (Fresh.ex e f) hv) fun z hz H2 e2 => k2 z hz H2 (e.trans e2)
theorem go_doW (x : HAt (He.ga K "House") H p F h) (hm : (flds F h).lookup m = none) (ho : EvD ta ds H (.obj p)) (ha : EvA tr ds H as) (pa : D.pureL as = true) (pe : pureE ds = true) (hp : Pre h as o)
    (k1 : ∀ d h', o = .ok d h' → ∀ H2 F', HAt (He.ga K "House") H2 p F' h' → Fr (fp p F) H H2 → Fresh p H F F' → Go tz ds H2 E) (k2 : ∀ x, o = .err x → ∀ H2, Ex H H2 → X (.ref (He.ga K x)) none H2) :
    Go (tSeq (tDrop (tMeth (He.ga K "House") m (wsp K Pre) [] X ta tr)) tz) ds H E := fun σ H1 e n =>
  w_meth x hm ho ha pa hp e n (fun d h' hd v H2 F' y r f _ hv => k1 d h' hd H2 F' y (Fr.ex_trans e r) (Fresh.ex e f) σ H2 (Same.refl _) ((x.mono e).keepE r pe n)) fun z hz H2 e2 => k2 z hz H2 (e.trans e2)
end
/-! ### stores -/
section
variable {K : PySem.W.Frag} {C p : Addr} {H H1 : Hp} {F : Foot} {h : HS}
theorem putF_keep (v : Int) : putF "keep" (.int v) (flds F h) = flds F { h with keep := v } := rfl
theorem putF_room (v : Int) : putF "room" (.int v) (flds F h) = flds F { h with room := v } := rfl
theorem putF_today (v : Int) : putF "today" (.int v) (flds F h) = flds F { h with today := v } := rfl
theorem putF_count (v : Int) : putF "count" (.int v) (flds F h) = flds F { h with count := v } := rfl
theorem putF_casts (a : Addr) : putF "casts" (.ref a) (flds F h) = flds { F with casts := a } h := rfl
theorem putF_pairs (a : Addr) : putF "pairs" (.ref a) (flds F h) = flds { F with pairs := a } h := rfl
theorem upd_fr {a : Addr} {o : HO} (ha : a ∈ fp p F) : Fr (fp p F) H (upd H a o) := fun b u e n => by
  rw [upd_ne (fun (q : b = a) => n (by rw [q]; exact ha))]
  exact e
theorem HAt.ins_ne (x : HAt C H p F h) : p ≠ F.rows ∧ p ≠ F.shelved ∧ p ≠ F.casts ∧ p ≠ F.pairs := by
  obtain ⟨k1, e1⟩ := x.rows_
  obtain ⟨k2, e2⟩ := x.shelved_
  obtain ⟨k3, e3, _⟩ := x.casts_
  obtain ⟨k4, e4, _⟩ := x.pairs_
  exact ⟨ne_of x.ob e1 (by intro z; cases z), ne_of x.ob e2 (by intro z; cases z), ne_of x.ob e3 (by intro z; cases z), ne_of x.ob e4 (by intro z; cases z)⟩
theorem HAt.kind_ne (x : HAt C H p F h) : F.rows ≠ F.casts ∧ F.rows ≠ F.pairs ∧ F.shelved ≠ F.casts ∧ F.shelved ≠ F.pairs := by
  obtain ⟨k1, e1⟩ := x.rows_
  obtain ⟨k2, e2⟩ := x.shelved_
  obtain ⟨k3, e3, _⟩ := x.casts_
  obtain ⟨k4, e4, _⟩ := x.pairs_
  exact ⟨ne_of e1 e3 (by intro z; cases z), ne_of e1 e4 (by intro z; cases z), ne_of e2 e3 (by intro z; cases z), ne_of e2 e4 (by intro z; cases z)⟩
theorem Is.upd_ins {a : Addr} {C' dx : Addr} {fs : List (Str × V)} {o : HO} {d : D} {v : V} (ha : H a = some (.ins C' dx fs)) (h : Is H d v) : Is (upd H a o) d v :=
  h.imp (fun b vs q => by rw [upd_ne (ne_of q ha (by intro z; cases z))]; exact q) (fun b vs q => by rw [upd_ne (ne_of q ha (by intro z; cases z))]; exact q)
theorem DOn.upd_ins {a b : Addr} {C' dx : Addr} {fs : List (Str × V)} {o : HO} {kd : List (Key × D)} (ha : H a = some (.ins C' dx fs)) (h : DOn H b kd) : DOn (upd H a o) b kd := by
  obtain ⟨kvs, e, w⟩ := h
  exact ⟨kvs, by rw [upd_ne (ne_of e ha (by intro z; cases z))]; exact e, w.imp (fun b vs q => by rw [upd_ne (ne_of q ha (by intro z; cases z))]; exact q) (fun b vs q => by rw [upd_ne (ne_of q ha (by intro z; cases z))]; exact q)⟩
/-- a plain field is stored -/
theorem HAt.st_int (x : HAt C H p F h) {h' : HS} (h1 : h'.rows = h.rows) (h2 : h'.shelved = h.shelved) (h3 : h'.casts = h.casts) (h4 : h'.pairs = h.pairs) : HAt C (upd H p (.ins C F.dx (flds F h'))) p F h' :=
  ⟨upd_same, by rw [h1]; exact x.rw.upd_ins x.ob, by rw [h2]; exact x.sh.upd_ins x.ob, by rw [h3]; exact x.ca.upd_ins x.ob, by rw [h4]; exact x.pa.upd_ins x.ob, x.n1, x.n2⟩
/-- rows, shelved stored at a number -/
theorem HAt.st_rows (x : HAt C H p F h) {kvs kvs' : List (Key × V)} {rows' : List (Int × Row)} (hk : H F.rows = some (.dK kvs)) (hi : DictIs H (kds Row.d rows') kvs') : HAt C (upd H F.rows (.dK kvs')) p F { h with rows := rows' } := by
  obtain ⟨n1, n2, n3, n4⟩ := x.ins_ne
  refine ⟨by rw [upd_ne n1]; exact x.ob, ⟨kvs', upd_same, hi.upd_dK hk⟩, ?_, x.ca.upd_dK hk, x.pa.upd_dK hk, x.n1, x.n2⟩
  obtain ⟨k2, e2, w2⟩ := x.sh
  exact ⟨k2, by rw [upd_ne x.n1.symm]; exact e2, w2.upd_dK hk⟩
theorem HAt.st_shelved (x : HAt C H p F h) {kvs kvs' : List (Key × V)} {sh' : List (Int × Int)} (hk : H F.shelved = some (.dK kvs)) (hi : DictIs H (kds D.int sh') kvs') : HAt C (upd H F.shelved (.dK kvs')) p F { h with shelved := sh' } := by
  obtain ⟨n1, n2, n3, n4⟩ := x.ins_ne
  refine ⟨by rw [upd_ne n2]; exact x.ob, ?_, ⟨kvs', upd_same, hi.upd_dK hk⟩, x.ca.upd_dK hk, x.pa.upd_dK hk, x.n1, x.n2⟩
  obtain ⟨k2, e2, w2⟩ := x.rw
  exact ⟨k2, by rw [upd_ne x.n1]; exact e2, w2.upd_dK hk⟩
end
section
variable {K : PySem.W.Frag} {ds : List (Option D)} {H H' : Hp} {ta tb tc te tv : TE} {d : D} {tz : TS} {E : Ends} {p : Addr} {F : Foot} {h h' : HS}
/-- self.f = e, a plain field -/
theorem go_fld {f : Str} {n : Int} (hc : Cls K (He.ga K "House")) (hn : NoAttr K (He.ga K "House") f) (x : HAt (He.ga K "House") H p F h) (hv : EvD tv ds H (.int n)) (ho : EvD ta ds H (.obj p)) (pe : pureE ds = true)
    (hf : putF f (.int n) (flds F h) = flds F h') (h1 : h'.rows = h.rows) (h2 : h'.shelved = h.shelved) (h3 : h'.casts = h.casts) (h4 : h'.pairs = h.pairs)
    (k : ∀ H2, HAt (He.ga K "House") H2 p F h' → Fr (fp p F) H H2 → Go tz ds H2 E) : Go (tSeq (sFld K ta tv f) tz) ds H E := fun σ H1 e nn =>
  hv σ H1 e nn _ fun v H2 e2 hv' => by
    refine ho σ H2 (e.trans e2) (nn.mono e2) _ fun y H3 e3 hy => ?_
    have x3 := x.mono ((e.trans e2).trans e3)
    refine ⟨p, _, F.dx, flds F h, hy, x3.ob, hc, hn, by show 8 < 1000; decide, ?_⟩
    cases (show _ = _ from hv')
    rw [hf]
    have fr : Fr (fp p F) H3 (upd H3 p (.ins (He.ga K "House") F.dx (flds F h'))) := upd_fr (by simp [fp])
    exact k _ (x3.st_int h1 h2 h3 h4) (Fr.ex_trans ((e.trans e2).trans e3) fr) σ _ (Same.refl _) (x3.keepE fr pe ((nn.mono e2).mono e3))
/-- self.rows[n] = e -/
theorem go_rowput {n : Int} {r : Row} (x : HAt (He.ga K "House") H p F h) (hl : h.rows.length < 100000) (hv : EvD tv ds H r.d) (hd : EvD ta ds H (.obj F.rows)) (hk : EvD tb ds H (.int n)) (pe : pureE ds = true)
    (k : ∀ H2, HAt (He.ga K "House") H2 p F { h with rows := put h.rows n r } → Fr (fp p F) H H2 → Go tz ds H2 E) : Go (tSeq (sDPut ta tb tv) tz) ds H E := fun σ H1 e nn =>
  hv σ H1 e nn _ fun v H2 e2 hv' => hd σ H2 (e.trans e2) (nn.mono e2) _ fun y H3 e3 hy => hk σ H3 ((e.trans e2).trans e3) ((nn.mono e2).mono e3) _ fun z H4 e4 hz => by
    have x4 := x.mono (((e.trans e2).trans e3).trans e4)
    obtain ⟨kvs, hkv, hi⟩ := x4.rw
    have fr : Fr (fp p F) H4 (upd H4 F.rows (.dK (putK kvs (Sum.inl n) v))) := upd_fr (by simp [fp])
    refine ⟨F.rows, _, hy, .inl ⟨kvs, Sum.inl n, hkv, hz, ?_, rfl⟩, ?_⟩
    · rw [hi.len, kds_len]
      exact Nat.lt_trans hl (by decide)
    · refine k _ (x4.st_rows hkv ?_) (Fr.ex_trans (((e.trans e2).trans e3).trans e4) fr) σ _ (Same.refl _) (x4.keepE fr pe (((nn.mono e2).mono e3).mono e4))
      rw [← kds_put]
      exact hi.put (hv'.mono (e3.trans e4))
end
end Cs
set_option Elab.async false
set_option linter.all false
set_option maxRecDepth 100000
set_option maxHeartbeats 4000000
namespace Cs
open PySem PySem.Spec PyProof.Rows L2
/-- what a body's derivation leans on -/
structure Bd (P : Program) (w : World) (K : PySem.W.Frag) (mg : Str → Option Value) (base : Heap) (N : List Str) (qual : Str) (scope : Scope) (f : Addr) (cdv : Value) (A : Around) (outer : List Env) (s : Shared) (H0 : Hp) (E : XK) (k : Nat) : Prop where
  hr : Room k (cxOf (L2.CX P w) P w K mg base N qual scope f cdv A outer s H0 E).A
  tk : Takes (cxOf (L2.CX P w) P w K mg base N qual scope f cdv A outer s H0 E) (fun cls d _ H => E cls d H)
  px : Passes (L2.CX P w) (cxOf (L2.CX P w) P w K mg base N qual scope f cdv A outer s H0 E) E
  hu : (cxOf (L2.CX P w) P w K mg base N qual scope f cdv A outer s H0 E).A.units + 1 < cLine
  hu65 : (cxOf (L2.CX P w) P w K mg base N qual scope f cdv A outer s H0 E).A.units + 65 < cLine
section
variable {P : Program} {w : World} {K : PySem.W.Frag} {mg : Str → Option Value} {base : Heap} {k j : Nat} {f : Addr} {ps N : List Str} {x qual : Str} {st : Stmt}
theorem bd_of {scope : Scope} {cdv : Value} {A : Around} {outer : List Env} {s : Shared} {H0 : Hp} {E : XK} (hr : Room k (A.deeper (envOfC qual scope s.heap.objs.size f cdv))) : Bd P w K mg base N qual scope f cdv A outer s H0 E k := by
  have tk : Takes (cxOf (L2.CX P w) P w K mg base N qual scope f cdv A outer s H0 E) (fun cls d _ H => E cls d H) := takes_of rfl rfl rfl rfl
  refine ⟨hr, tk, passes_call tk fun _ _ _ _ z => z, hu_of hr, ?_⟩
  have := hr.un
  show (A.deeper (envOfC qual scope s.heap.objs.size f cdv)).units + 65 < cLine
  omega
theorem mk_r {Pre : Hp → List D → D → Prop} (F : Df K x qual st f ps) (S : FnScope N ps (defScope st)) (hlen : ∀ H as d, Pre H as d → as.length = ps.length) (hN : ps.length ≤ N.length)
    (hbody : ∀ (cdv : Value) (A : Around) (outer : List Env) (s : Shared) (H H0 : Hp) (E : XK) (as : List D) (d : D), Bd P w K mg base N qual (defScope st) f cdv A outer s H0 E k → Pre H as d →
      ∃ t, PSs (cxOf (L2.CX P w) P w K mg base N qual (defScope st) f cdv A outer s H0 E) (defBody st) t ∧ Ret t (as.map some ++ List.replicate (N.length - as.length) none) H d) : Fk P w K mg base (k + 1) f ps (rsp Pre) :=
  mk_rsp (n := 0) F S hlen hN fun cdv A outer s H H0 E as d hr hp => hbody cdv A outer s H H0 E as d (bd_of hr) hp
theorem mk_x {Pre : Hp → List D → Res → Prop} (F : Df K x qual st f ps) (S : FnScope N ps (defScope st)) (hlen : ∀ H as d, Pre H as d → as.length = ps.length) (hN : ps.length ≤ N.length)
    (hbody : ∀ (cdv : Value) (A : Around) (outer : List Env) (s : Shared) (H H0 : Hp) (Q : VK) (E : XK) (as : List D) (r : Res), Bd P w K mg base N qual (defScope st) f cdv A outer s H0 E k → Pre H as r →
      (∀ d, r = .ok d → ∀ v H', Ex H H' → Is H' d v → Q v H') → (∀ x, r = .err x → ∀ H', Ex H H' → E (.ref (He.ga K x)) none H') →
      ∃ t, PSs (cxOf (L2.CX P w) P w K mg base N qual (defScope st) f cdv A outer s H0 E) (defBody st) t ∧ Go t (as.map some ++ List.replicate (N.length - as.length) none) H { nx := fun _ H' => Q .non H', rt := Q }) : Fk P w K mg base (k + 1) f ps (rspX K Pre) := by
  refine mk_fk F S (fun vs H Q E h => ?_) fun cdv A outer s H vs Q E hr h => ?_
  · obtain ⟨as, d, hv, hp, _⟩ := h
    rw [hv.len, hlen H as d hp]
  · obtain ⟨as, r, hv, hp, k1, k2⟩ := h
    obtain ⟨t, h1, h2⟩ := hbody cdv A outer s H H Q E as r (bd_of hr) hp k1 k2
    exact ⟨t, h1, h2 _ H (Same.refl _) (start_env hv (by rw [hlen H as r hp]; exact hN))⟩
theorem mk_w {Pre : HS → List D → Out → Prop} (F : Df K x qual st f ps) (S : FnScope N ps (defScope st)) (hlen : ∀ h as o, Pre h as o → as.length + 1 = ps.length) (hN : ps.length ≤ N.length)
    (hbody : ∀ (cdv : Value) (A : Around) (outer : List Env) (s : Shared) (H H0 : Hp) (Q : VK) (E : XK) (p : Addr) (F : Foot) (h : HS) (as : List D) (o : Out), Bd P w K mg base N qual (defScope st) f cdv A outer s H0 E k → D.pureL as = true → HAt (He.ga K "House") H p F h → Pre h as o →
      (∀ d h', o = .ok d h' → ∀ v H' F', HAt (He.ga K "House") H' p F' h' → Fr (fp p F) H H' → Fresh p H F F' → Is H' d v → Q v H') → (∀ x, o = .err x → ∀ H', Ex H H' → E (.ref (He.ga K x)) none H') →
      ∃ t, PSs (cxOf (L2.CX P w) P w K mg base N qual (defScope st) f cdv A outer s H0 E) (defBody st) t ∧ Go t (some (.obj p) :: (as.map some ++ List.replicate (N.length - (as.length + 1)) none)) H { nx := fun _ H' => Q .non H', rt := Q }) : Fk P w K mg base (k + 1) f ps (wsp K Pre) := by
  refine mk_fk F S (fun vs H Q E h => ?_) fun cdv A outer s H vs Q E hr h => ?_
  · obtain ⟨p, F, h, as, o, hv, pa, x, hp, _⟩ := h
    rw [hv.len]
    exact hlen h as o hp
  · obtain ⟨p, F, h, as, o, hv, pa, x, hp, k1, k2⟩ := h
    obtain ⟨t, h1, h2⟩ := hbody cdv A outer s H H Q E p F h as o (bd_of hr) pa x hp k1 k2
    exact ⟨t, h1, h2 _ H (Same.refl _) (start_env hv (by show as.length + 1 ≤ N.length; rw [hlen h as o hp]; exact hN))⟩
end
end Cs
set_option Elab.async false
set_option linter.all false
set_option maxRecDepth 100000
set_option maxHeartbeats 4000000
namespace Cs
open PySem PySem.Spec PyProof.Rows L2
/-! ### written texts ahead give out a token: e.replace(..) behind them in a display -/
section
variable {X : Cx} {e : Expr} {es : List Expr} {te : TE} {t : TA} {x : Str} {j : Nat} {p : Pos}
theorem pa_str1 (hr : PAT X es t) (hs : starEach (.Constant (.str x) j p :: es) X.env = (false, eval (.Constant (.str x) j p) X.env) :: starEach es X.env := by rfl) : PA X (.Constant (.str x) j p :: es) (tCons (tC (.str x)) t) := by
  constructor
  intro pos pins s σ H Q I h
  rw [hs]
  show wpAny _ _ (spliced ((false, eval (.Constant (.str x) j p) X.env) :: backTo pos (starEach es X.env))) _ _ s
  refine Calls.spliced_cons (Calls.Constant_str ?_)
  refine thn (hr pos pins { s with toks := s.toks + 1 } σ H _ (Nat.le_add_left 1 s.toks) (I.tok _) h) fun us s2 z => ?_
  obtain ⟨xs, H2, I2, r2, q2⟩ := z
  exact ⟨V.str x :: xs, H2, I2, .cons (show RelV (V.str x) _ from ⟨_, rfl⟩) r2, q2⟩
theorem pat_next (ha : PE X e te) (hr : PAT X es t) (hs : starEach (e :: es) X.env = (false, eval e X.env) :: starEach es X.env := by rfl) : PAT X (e :: es) (tCons te t) := by
  intro pos pins s σ H Q h0 I h
  rw [hs]
  show wpAny _ _ (spliced ((false, eval e X.env) :: backTo pos (starEach es X.env))) _ _ _
  refine Calls.spliced_cons (wpAny_mono (PySem.wpAny_toks (ha.run pins s σ H _ I h)) (fun u s1 z => ?_) fun _ _ z => z.2)
  obtain ⟨hk, v, H1, I1, r1, q1⟩ := z
  refine thn (hr pos pins s1 σ H1 _ (Nat.le_trans h0 hk) I1 q1) fun us s2 z => ?_
  obtain ⟨xs, H2, I2, r2, q2⟩ := z
  exact ⟨_, H2, I2, .cons r1 r2, q2⟩
theorem pat_last (ha : PET X e te) (hs : starEach [e] X.env = (false, eval e X.env) :: starEach [] X.env := by rfl) : PAT X [e] (tCons te tNil) := by
  intro pos pins s σ H Q h0 I h
  rw [hs]
  show wpAny _ _ (spliced ((false, eval e X.env) :: backTo pos (starEach [] X.env))) _ _ _
  refine Calls.spliced_cons (thn (ha pins s σ H _ h0 I h) fun u s1 z => ?_)
  obtain ⟨v, H1, I1, r1, q1⟩ := z
  exact Calls.spliced_nil ⟨_, H1, I1, .cons r1 .nil, q1⟩
end
/-! ### list.count of flat things -/
abbrev rCntB (K : PySem.W.Frag) : V → List V → Hp → VK → Prop := fun x xs H Q => ∃ (p : Addr) (ys : List V) (y : V), x = .ref p ∧ xs = [y] ∧ SqL K H p ys ∧ flatV y = true ∧ ys.all flatV = true ∧ Q (.int (ys.countP fun z => eqV z y : Nat)) H
theorem countP_eqU {x : V} : ∀ {ys : List V} {us : List Value}, Vals ys us → ys.all flatV = true → us.countP (eqU x) = ys.countP fun z => eqV z x
  | _, _, .nil, _ => rfl
  | _, _, .cons r t, f => by
    rw [List.all_cons, Bool.and_eq_true] at f
    rw [List.countP_cons, List.countP_cons, countP_eqU t f.2, eqU_of r f.1]
theorem mt_countB {X : Cx} : MtR X "list.count" (rCntB X.K) := by
  intro pins s σ H x xs v us Q I rx rxs h
  obtain ⟨p, ys, y, rfl, rfl, hs, fy, fs, q⟩ := h
  cases rx
  obtain ⟨u, rfl, ru⟩ := rxs.one
  obtain ⟨its, rv, ⟨⟨cls, dd, data, sl⟩, n, ho, hc, hdn, hd⟩, hlen⟩ := I.list hs
  dsimp only at hc hd
  cases hc
  cases hd
  refine call_meets PySem.F.slot_list_count ⟨_, ho, rfl⟩ PySem.F.entry_list_count (PySem.F.args_list_count_2 _ _) (SeqAt.list_countAt p its.toArray n dd sl u (eqU y)) ⟨ho, fun z hz => mem_eqAt ru fy rv fs z (by simpa using hz), ?_⟩
  refine ⟨.int (ys.countP fun z => eqV z y : Nat), H, I.tok _, ⟨s.toks, ?_⟩, q⟩
  rw [← countP_eqU rv fs]
/-! ### an exception that is kept behind its try -/
/-- an exception object of the class cls at a -/
def ExH (cls : Value) (a : Addr) : HO := .ext fun h => ∃ (oe : Obj) (vs : Array Value), h.get? a = some oe ∧ Zc cls none oe ∧ oe.data = .fields vs
section
variable {X : Cx} {pins : List (Addr × Obj)} {σ : L2.St} {H : Hp} {s : Shared}
/-- what is pinned and was not there at the entry may be tracked -/
theorem inv_track {a : Addr} {oe : Obj} {cls : Value} {vs : Array Value} (I : Inv X ((a, oe) :: pins) σ H s) (h0 : X.s_0.heap.get? a = none) (hz : Zc cls none oe) (hd : oe.data = .fields vs) (hc : ∀ x c, X.env.cells.lookup x = some c → c ≠ a) (hp : ∀ p ∈ X.pn ++ pins, p.1 ≠ a) : Inv X pins σ (upd H a (ExH cls a)) s := by
  obtain ⟨ha, hn, hl, _, _⟩ := I.pin (a, oe) (List.mem_append_right _ List.mem_cons_self)
  have ne0 : ∀ b o, X.s_0.heap.get? b = some o → b ≠ a := fun b o q z => by
    rw [z, h0] at q
    cases q
  have neS : ∀ b u, H b = some u → b ≠ a := fun b u q => ne_of_none q hn
  refine ⟨I.ok, I.os, I.bare, ⟨I.base.keep, I.base.slot, fun b o q n hx => ?_, I.base.there, fun b xs q => ?_, fun b o u q => ?_, fun b ps q => ?_⟩, I.loc, I.cell, ?_, fun x c q => ?_, fun p hp' => ?_, fun b u q => ?_, I.len⟩
  · rw [upd_ne (ne0 b o q)]
    exact I.base.free b o q n hx
  · have z := I.base.tups b xs q
    rw [upd_ne (neS b _ z)]
    exact z
  · have z := I.base.frzs b o u q
    rw [upd_ne (neS b _ z)]
    exact z
  · obtain ⟨m, z⟩ := I.base.tbls b ps q
    exact ⟨m, by rw [upd_ne (neS b _ z)]; exact z⟩
  · rw [upd_ne hl.symm]
    exact I.free
  · rw [upd_ne (hc x c q)]
    exact I.freeC x c q
  · have z := I.pin p (by
      rcases List.mem_append.mp hp' with w | w
      · exact List.mem_append_left _ w
      · exact List.mem_append_right _ (List.mem_cons_of_mem _ w))
    exact ⟨z.1, by rw [upd_ne (hp p hp')]; exact z.2.1, z.2.2⟩
  · by_cases c : b = a
    · subst c
      rw [upd_same] at q
      cases q
      exact ⟨⟨oe, vs, ha, hz, hd⟩, ⟨oe, ha⟩, fun _ _ w k => by
        obtain ⟨o, v, q1, q2⟩ := w
        exact ⟨o, v, k o q1, q2⟩⟩
    · rw [upd_ne c] at q
      exact (I.hok b u q).stay (fun _ _ _ z => z) (fun c' z => by rw [upd_ne (neS c' _ z)]; exact z) fun c' xs z => by rw [upd_ne (neS c' _ z)]; exact z
end
/-- what is wished of an exception that 'except x as n: k = n' takes (n in slot i, k in slot j) -/
def wKeep (K : PySem.W.Frag) (c : Value) (i j : Nat) (D : Ends) : WX := fun cls d σ H => PySem.W.exmOne K cls c = some true ∧ d = none ∧ ∀ a, H a = none → D.nx (((σ.set i (some (.ref a))).set j (some (.ref a))).set i none) (upd H a (ExH cls a))
section
variable {X : Cx} {x n k : Str} {c : Value} {i j : Nat} {body : List Stmt} {np pos pos' kp ep ap : Pos} {tb : WX → TS}
theorem ps_try_keep (hs : X.stack = X.env :: X.outer) (hf : X.env.frame = some X.env.locals) (hex : X.ex = []) (hnc : X.env.cells = []) (hN : X.N.Nodup) (hi : X.N[i]? = some n) (hj : X.N[j]? = some k) (hln : X.env.kindOf n = some .local) (hlk : X.env.kindOf k = some .local) (hc : Names X x c)
    (hvn : (n == ("__debug__" : Str)) = false ∧ (n == ("__classdict__" : Str)) = false)
    (hb : ∀ (W : WX) (pn : List (Addr × Obj)) (xe : Value → Shared → Prop), Takes (X.tr pn xe) W → PassesOwn (model X.prog X.w) X.A X.env xe → PSs (X.tr pn xe) body (tb W))
    (hsu : ∀ (a : Addr) (pn : List (Addr × Obj)), PSs (X.suite a pn) [.Assign [.Name k kp] (.Name n ep) ap] (tAsg (tVar i) (gName j))) :
    PS X (.Try body [.ExceptHandler (some (.Name x np)) (some n) [.Assign [.Name k kp] (.Name n ep) ap] pos'] [] [] pos) (fun D σ H => tb (wKeep X.K c i j D) D σ H) := by
  constructor
  intro pins s σ H D I h
  have ok := I.ok
  have hfr : X.A.frames = some (X.env :: X.outer) := ok.frames.trans (congrArg some hs)
  refine wpAny_Try_except ?_
  let hnd : List ExceptHandler := [.ExceptHandler (some (.Name x np)) (some n) [.Assign [.Name k kp] (.Name n ep) ap] pos']
  let xe : Value → Shared → Prop := fun e s1 => wpAny (model X.prog X.w) X.A (noteFrame e X.env) (fun _ s2 => wpAny (model X.prog X.w) X.A (setFlight e none) (fun _ s3 => wpAny (model X.prog X.w) X.A (handleBy e X.env hnd) (SP X pins D) X.xe s3) X.xe s2) X.xe s1
  have tk : Takes (X.tr (X.pn ++ pins) xe) (wKeep X.K c i j D) := by
    intro u s1 xx
    obtain ⟨a, B, sI, pins1, σ1, H1, cls, d, rfl, J0, nb, up, sky, na, os, ag, hm, hd0, hgo⟩ := xx
    subst hd0
    have J : Inv X pins σ1 H1 sI := J0.ofTry ok
    have sky' : Sky B (X.env :: X.outer) a (Zc cls none) X.env.locals s1.heap := hs ▸ sky
    show wpAny (model X.prog X.w) X.A (noteFrame (.ref a) X.env) _ _ _
    refine Sky.land Zc.steady hfr hf sky' fun h3 fl3 up3 => ?_
    have J3 : Inv X pins σ1 H1 { s1 with heap := h3 } := J.landed nb fl3.1 (up.trans up3) os ag
    obtain ⟨oe3, vs3, he3, hz3, hd3⟩ := fl3.there
    -- the exception's own object is no frame
    have nfr : a ∉ frs (X.env :: X.outer) := fun hm' => by
      obtain ⟨_, o', e', hnf⟩ := fl3.2.2.1.mem hm'
      rw [he3] at e'
      cases e'
      exact hnf _ hd3
    have nL : a ≠ X.env.locals := fun z => nfr (List.mem_filterMap.mpr ⟨X.env, List.mem_cons_self, by rw [hf, z]⟩)
    have nF : a ∉ X.fs := fun hm' => by
      obtain ⟨e1, he1, q1⟩ := List.mem_filterMap.mp hm'
      exact nfr (List.mem_filterMap.mpr ⟨e1, List.mem_cons_of_mem _ he1, q1⟩)
    -- it was not there at the entry
    have nI : sI.heap.get? a = none := by
      cases q : sI.heap.get? a with
      | none => rfl
      | some o =>
        have := nb a o q (by rw [hs]; exact nfr)
        rw [fl3.2.1] at this
        cases this
    have n0 : X.s_0.heap.get? a = none := by
      cases q : X.s_0.heap.get? a with
      | none => rfl
      | some o =>
        obtain ⟨o', q'⟩ := J.base.there a o q (by rw [hex]; exact List.not_mem_nil)
        rw [nI] at q'
        cases q'
    have S3 := J3.suite he3 hd3 na nL nF
    refine wpAny_handleBy_cons (codeAny_handlers_test ?_) (by intro q; cases q)
    have LT : PySem.W.Looks (model X.prog X.w) h3 (typeOf (.ref a)) cls := fun A Q E s' kk q => wpAny_typeOf_ref (kk _ _ he3) (by rw [hz3.1]; exact q)
    have LM := PySem.W.exm_one (M := model X.prog X.w) J3.kIn LT hm
    have test : ∀ {Q : Value → Shared → Prop} {E : Value → Shared → Prop}, Q c { s1 with heap := h3 } → wpAny (model X.prog X.w) (X.A.mark (some (.ref a))) (eval (.Name x np) X.env) Q E { s1 with heap := h3 } := fun {Q E} q => by
      obtain ⟨hg, hdbg, hm1 | ⟨hm1, hv, hnn⟩⟩ := hc
      · exact ld_glob (X := X.suite a ((a, oe3) :: (X.pn ++ pins))) S3 hg hm1 q hdbg
      · exact ld_blt (X := X.suite a ((a, oe3) :: (X.pn ++ pins))) S3 hg hm1 hv q hnn hdbg
    refine test (LM.here (codeAny_handlers_suite_as (HandSPX.lands_againZ fl3 fun h4 fl4 up4 => ?_)))
    have J4 : Inv X pins σ1 H1 { s1 with heap := h4 } := J.landed nb fl4.1 ((up.trans up3).trans up4) os ag
    obtain ⟨oe4, vs4, he4, hz4, hd4⟩ := fl4.there
    have S4 := J4.suite he4 hd4 na nL nF
    refine store_ok (X := X.suite a ((a, oe4) :: (X.pn ++ pins))) (v := .ref a) S4 hN hi (.inl hln) rfl (fun s5 S5 => ?_) (.inr hln)
    have hil : i < σ1.length := by
      rw [J4.len]
      exact (List.getElem?_eq_some_iff.mp hi).1
    refine wpAny_mono ((hsu a ((a, oe4) :: (X.pn ++ pins))).run [] s5 _ H1 { nx := fun σ' H' => σ' = (σ1.set i (some (.ref a))).set j (some (.ref a)) ∧ H' = H1, rt := fun _ _ => False, bk := fun _ _ => False, ct := fun _ _ => False } S5 ⟨.ref a, List.getElem?_set_self hil, rfl, rfl⟩) (fun f s6 hsp => ?_) fun _ _ z => False.elim z
    cases f with
    | next =>
      obtain ⟨σ6, H6, S6, rfl, rfl⟩ := hsp
      -- the pin is carried over the name's going
      have P6 := S6.pin (a, oe4) (List.mem_append_left _ List.mem_cons_self)
      have J6 : Inv X ((a, oe4) :: pins) _ H6 s6 := (S6.unsuite ok).pins_of fun p hp => by
        rcases List.mem_cons.mp hp with q | q
        · rw [q]
          exact P6
        · exact (S6.unsuite ok).pin p (List.mem_append_right _ q)
      refine gone_ok J6 hN hi hln fun s7 J7 => ⟨_, _, inv_track J7 n0 hz4 hd4 (fun y c1 q => by rw [hnc] at q; cases q) (fun p hp z => ?_), hgo a na⟩
      -- other pins were there before
      have q1 := (J.pin p hp).1
      rw [z, nI] at q1
      cases q1
    | brk => obtain ⟨_, _, _, z⟩ := hsp; exact z.elim
    | cont => obtain ⟨_, _, _, z⟩ := hsp; exact z.elim
    | ret u => obtain ⟨_, _, _, _, _, z⟩ := hsp; exact z.elim
  refine wpAny_mono ((hb (wKeep X.K c i j D) (X.pn ++ pins) xe tk PassesOwn.looking).run [] s σ H D (I.toTry _) h) (fun f s1 hsp => ?_) (fun e s1 he => he)
  cases f with
  | next =>
    obtain ⟨σ', H', J', q⟩ := hsp
    exact wpAny_execs_nil ⟨σ', H', J'.ofTry ok, q⟩
  | brk =>
    obtain ⟨σ', H', J', q⟩ := hsp
    exact ⟨σ', H', J'.ofTry ok, q⟩
  | cont =>
    obtain ⟨σ', H', J', q⟩ := hsp
    exact ⟨σ', H', J'.ofTry ok, q⟩
  | ret u =>
    obtain ⟨v, σ', H', J', r, q⟩ := hsp
    exact ⟨v, σ', H', J'.ofTry ok, r, q⟩
end
/-- isinstance(e, c), e a kept exception -/
abbrev rIsH (K : PySem.W.Frag) : List V → Hp → VK → Prop := fun xs H Q => ∃ (a Dc : Addr) (c : V) (cv : Value) (b : Bool), xs = [.ref a, c] ∧ H a = some (ExH (.ref Dc) a) ∧ ExcC K Dc ∧ (∀ u, RelV c u → u = cv) ∧ PySem.W.kitOne K (.ref Dc) cv = some b ∧ Q (.bl b) H
theorem call_isH {X : Cx} : CallR X (.builtin "isinstance") (rIsH X.K) := by
  intro pins s σ H xs us Q I r h
  obtain ⟨a, Dc, c, cv, b, rfl, ha, C, hcv, e, q⟩ := h
  cases r with
  | cons rx rr =>
    cases rr with
    | cons rt rr =>
      cases rr
      cases rx
      cases hcv _ rt
      obtain ⟨⟨oe, vs, hget, hz, hv⟩, _⟩ := I.hok a _ ha
      have J : PySem.W.InstAt s.heap a oe Dc none := by
        obtain ⟨oc, od, oda, osl⟩ := oe
        obtain ⟨h1, h2⟩ := hz
        dsimp only at h1 h2 hv
        subst h1 h2 hv
        exact ⟨hget, rfl, rfl, trivial⟩
      exact PySem.W.kia_one (PySem.W.handS_kitx_exc C.hg C.hk C.hs C.hd C.ha C.hn C.ht C.hm) I.kIn J e (fun z => nomatch z) fun tk => ⟨.bl b, H, I.kept (t' := tk) fun _ _ z => z, rfl, q⟩
/-- an expression that is not come to -/
def tNeverE : TE := fun _ _ _ => False
theorem pe_never {X : Cx} {e : Expr} : PE X e tNeverE := ⟨fun _ _ _ _ _ _ h => h.elim⟩
end Cs
set_option Elab.async false
set_option linter.all false
set_option maxRecDepth 100000
set_option maxHeartbeats 4000000
namespace Cs
open PySem PySem.Spec PyProof.Rows L2
def top (i : Nat) : Stmt := PySem.Challenge.pw_castshelf_k03_paths.main.body.getD i (.Pass ⟨0, 0, 0, 0⟩)
abbrev s_free_name : Stmt := top 12
abbrev s_House___init__ : Stmt := inClass (top 14) 0
abbrev s_House_is_there : Stmt := inClass (top 14) 1
abbrev s_House_must : Stmt := inClass (top 14) 2
abbrev s_House_must_box : Stmt := inClass (top 14) 3
abbrev s_House_names_in : Stmt := inClass (top 14) 4
abbrev s_House_must_be_free : Stmt := inClass (top 14) 5
abbrev s_House_new : Stmt := inClass (top 14) 6
abbrev s_House_make : Stmt := inClass (top 14) 7
abbrev s_House_rename : Stmt := inClass (top 14) 8
abbrev s_House_whole : Stmt := inClass (top 14) 9
abbrev s_House_move : Stmt := inClass (top 14) 10
abbrev s_House_row : Stmt := inClass (top 14) 11
abbrev s_House_things : Stmt := inClass (top 14) 12
abbrev s_House_path : Stmt := inClass (top 14) 13
abbrev s_House_at : Stmt := inClass (top 14) 14
abbrev s_House_must_sheet : Stmt := inClass (top 14) 15
abbrev s_House_signs_of : Stmt := inClass (top 14) 16
abbrev s_House_used : Stmt := inClass (top 14) 17
abbrev s_House_make_room : Stmt := inClass (top 14) 18
abbrev s_House_write : Stmt := inClass (top 14) 19
abbrev s_House_text : Stmt := inClass (top 14) 20
abbrev s_House_used_pairs : Stmt := inClass (top 14) 21
abbrev s_House_tie : Stmt := inClass (top 14) 22
abbrev s_House_untie : Stmt := inClass (top 14) 23
abbrev s_House_ties : Stmt := inClass (top 14) 24
abbrev s_House_comers : Stmt := inClass (top 14) 25
abbrev s_House_cast : Stmt := inClass (top 14) 26
abbrev s_House_bundle : Stmt := inClass (top 14) 27
abbrev s_House_shelf : Stmt := inClass (top 14) 28
abbrev s_House_inner : Stmt := inClass (top 14) 29
abbrev s_House_take_down : Stmt := inClass (top 14) 30
abbrev s_House_back : Stmt := inClass (top 14) 31
abbrev s_House_lose : Stmt := inClass (top 14) 32
abbrev s_House_gone : Stmt := inClass (top 14) 33
abbrev s_House_empty : Stmt := inClass (top 14) 34
abbrev s_House_day : Stmt := inClass (top 14) 35
abbrev s_House_next_day : Stmt := inClass (top 14) 36
abbrev s_House_copy : Stmt := inClass (top 14) 37
abbrev s_law_cell : Stmt := top 16
abbrev s_law_mix : Stmt := top 17
abbrev s_law_same : Stmt := top 18
abbrev s_law_word : Stmt := top 19
abbrev s_law_call : Stmt := top 20
abbrev s_law_told : Stmt := top 21
abbrev s_law_begin : Stmt := top 22
abbrev s_law_there : Stmt := top 23
abbrev s_law_no_box : Stmt := top 24
abbrev s_law_names : Stmt := top 25
abbrev s_law_free : Stmt := top 26
abbrev s_law_within : Stmt := top 27
abbrev s_law_used : Stmt := top 28
abbrev s_law_lose : Stmt := top 29
abbrev s_law_no_room : Stmt := top 30
abbrev s_law_do : Stmt := top 31
abbrev s_law_make : Stmt := top 32
abbrev s_law_place : Stmt := top 33
abbrev s_law_write : Stmt := top 34
abbrev s_law_copy : Stmt := top 35
abbrev s_law_tie : Stmt := top 36
abbrev s_law_shelve : Stmt := top 37
abbrev s_law_shelf : Stmt := top 38
abbrev s_law_is_as : Stmt := top 39
abbrev s_law_number : Stmt := top 40
abbrev s_law_parent : Stmt := top 41
abbrev s_law_letters : Stmt := top 42
abbrev s_law_deed : Stmt := top 43
abbrev s_law_run : Stmt := top 44
abbrev s_law_cells : Stmt := top 45
abbrev s_law_path : Stmt := top 46
abbrev s_law_names_to : Stmt := top 47
abbrev s_law : Stmt := top 48
def d_free_name : He.DefD := ⟨("free_name", none), "free_name", "free_name", defArgs s_free_name, defBody s_free_name, defScope s_free_name, [], []⟩
def d_House___init__ : He.DefD := ⟨("House", some "__init__"), "__init__", "House.__init__", defArgs s_House___init__, defBody s_House___init__, defScope s_House___init__, [], []⟩
def d_House_is_there : He.DefD := ⟨("House", some "is_there"), "is_there", "House.is_there", defArgs s_House_is_there, defBody s_House_is_there, defScope s_House_is_there, [], []⟩
def d_House_must : He.DefD := ⟨("House", some "must"), "must", "House.must", defArgs s_House_must, defBody s_House_must, defScope s_House_must, [], []⟩
def d_House_must_box : He.DefD := ⟨("House", some "must_box"), "must_box", "House.must_box", defArgs s_House_must_box, defBody s_House_must_box, defScope s_House_must_box, [], []⟩
def d_House_names_in : He.DefD := ⟨("House", some "names_in"), "names_in", "House.names_in", defArgs s_House_names_in, defBody s_House_names_in, defScope s_House_names_in, [], []⟩
def d_House_must_be_free : He.DefD := ⟨("House", some "must_be_free"), "must_be_free", "House.must_be_free", defArgs s_House_must_be_free, defBody s_House_must_be_free, defScope s_House_must_be_free, [], []⟩
def d_House_new : He.DefD := ⟨("House", some "new"), "new", "House.new", defArgs s_House_new, defBody s_House_new, defScope s_House_new, [], []⟩
def d_House_make : He.DefD := ⟨("House", some "make"), "make", "House.make", defArgs s_House_make, defBody s_House_make, defScope s_House_make, [], []⟩
def d_House_rename : He.DefD := ⟨("House", some "rename"), "rename", "House.rename", defArgs s_House_rename, defBody s_House_rename, defScope s_House_rename, [], []⟩
def d_House_whole : He.DefD := ⟨("House", some "whole"), "whole", "House.whole", defArgs s_House_whole, defBody s_House_whole, defScope s_House_whole, [], []⟩
def d_House_move : He.DefD := ⟨("House", some "move"), "move", "House.move", defArgs s_House_move, defBody s_House_move, defScope s_House_move, [], []⟩
def d_House_row : He.DefD := ⟨("House", some "row"), "row", "House.row", defArgs s_House_row, defBody s_House_row, defScope s_House_row, [], []⟩
def d_House_things : He.DefD := ⟨("House", some "things"), "things", "House.things", defArgs s_House_things, defBody s_House_things, defScope s_House_things, [], []⟩
def d_House_path : He.DefD := ⟨("House", some "path"), "path", "House.path", defArgs s_House_path, defBody s_House_path, defScope s_House_path, [], []⟩
def d_House_at : He.DefD := ⟨("House", some "at"), "at", "House.at", defArgs s_House_at, defBody s_House_at, defScope s_House_at, [], []⟩
def d_House_must_sheet : He.DefD := ⟨("House", some "must_sheet"), "must_sheet", "House.must_sheet", defArgs s_House_must_sheet, defBody s_House_must_sheet, defScope s_House_must_sheet, [], []⟩
def d_House_signs_of : He.DefD := ⟨("House", some "signs_of"), "signs_of", "House.signs_of", defArgs s_House_signs_of, defBody s_House_signs_of, defScope s_House_signs_of, [], []⟩
def d_House_used : He.DefD := ⟨("House", some "used"), "used", "House.used", defArgs s_House_used, defBody s_House_used, defScope s_House_used, [], []⟩
def d_House_make_room : He.DefD := ⟨("House", some "make_room"), "make_room", "House.make_room", defArgs s_House_make_room, defBody s_House_make_room, defScope s_House_make_room, [], []⟩
def d_House_write : He.DefD := ⟨("House", some "write"), "write", "House.write", defArgs s_House_write, defBody s_House_write, defScope s_House_write, [], []⟩
def d_House_text : He.DefD := ⟨("House", some "text"), "text", "House.text", defArgs s_House_text, defBody s_House_text, defScope s_House_text, [], []⟩
def d_House_used_pairs : He.DefD := ⟨("House", some "used_pairs"), "used_pairs", "House.used_pairs", defArgs s_House_used_pairs, defBody s_House_used_pairs, defScope s_House_used_pairs, [], []⟩
def d_House_tie : He.DefD := ⟨("House", some "tie"), "tie", "House.tie", defArgs s_House_tie, defBody s_House_tie, defScope s_House_tie, [], []⟩
def d_House_untie : He.DefD := ⟨("House", some "untie"), "untie", "House.untie", defArgs s_House_untie, defBody s_House_untie, defScope s_House_untie, [], []⟩
def d_House_ties : He.DefD := ⟨("House", some "ties"), "ties", "House.ties", defArgs s_House_ties, defBody s_House_ties, defScope s_House_ties, [], []⟩
def d_House_comers : He.DefD := ⟨("House", some "comers"), "comers", "House.comers", defArgs s_House_comers, defBody s_House_comers, defScope s_House_comers, [], []⟩
def d_House_cast : He.DefD := ⟨("House", some "cast"), "cast", "House.cast", defArgs s_House_cast, defBody s_House_cast, defScope s_House_cast, [], []⟩
def d_House_bundle : He.DefD := ⟨("House", some "bundle"), "bundle", "House.bundle", defArgs s_House_bundle, defBody s_House_bundle, defScope s_House_bundle, [], []⟩
def d_House_shelf : He.DefD := ⟨("House", some "shelf"), "shelf", "House.shelf", defArgs s_House_shelf, defBody s_House_shelf, defScope s_House_shelf, [], []⟩
def d_House_inner : He.DefD := ⟨("House", some "inner"), "inner", "House.inner", defArgs s_House_inner, defBody s_House_inner, defScope s_House_inner, [], []⟩
def d_House_take_down : He.DefD := ⟨("House", some "take_down"), "take_down", "House.take_down", defArgs s_House_take_down, defBody s_House_take_down, defScope s_House_take_down, [], []⟩
def d_House_back : He.DefD := ⟨("House", some "back"), "back", "House.back", defArgs s_House_back, defBody s_House_back, defScope s_House_back, [], []⟩
def d_House_lose : He.DefD := ⟨("House", some "lose"), "lose", "House.lose", defArgs s_House_lose, defBody s_House_lose, defScope s_House_lose, [], []⟩
def d_House_gone : He.DefD := ⟨("House", some "gone"), "gone", "House.gone", defArgs s_House_gone, defBody s_House_gone, defScope s_House_gone, [], []⟩
def d_House_empty : He.DefD := ⟨("House", some "empty"), "empty", "House.empty", defArgs s_House_empty, defBody s_House_empty, defScope s_House_empty, [], []⟩
def d_House_day : He.DefD := ⟨("House", some "day"), "day", "House.day", defArgs s_House_day, defBody s_House_day, defScope s_House_day, [], []⟩
def d_House_next_day : He.DefD := ⟨("House", some "next_day"), "next_day", "House.next_day", defArgs s_House_next_day, defBody s_House_next_day, defScope s_House_next_day, [], []⟩
def d_House_copy : He.DefD := ⟨("House", some "copy"), "copy", "House.copy", defArgs s_House_copy, defBody s_House_copy, defScope s_House_copy, [], []⟩
def d_law_cell : He.DefD := ⟨("_law_cell", none), "_law_cell", "_law_cell", defArgs s_law_cell, defBody s_law_cell, defScope s_law_cell, [], []⟩
def d_law_mix : He.DefD := ⟨("_law_mix", none), "_law_mix", "_law_mix", defArgs s_law_mix, defBody s_law_mix, defScope s_law_mix, [], []⟩
def d_law_same : He.DefD := ⟨("_law_same", none), "_law_same", "_law_same", defArgs s_law_same, defBody s_law_same, defScope s_law_same, [], []⟩
def d_law_word : He.DefD := ⟨("_law_word", none), "_law_word", "_law_word", defArgs s_law_word, defBody s_law_word, defScope s_law_word, [], []⟩
def d_law_call : He.DefD := ⟨("_law_call", none), "_law_call", "_law_call", defArgs s_law_call, defBody s_law_call, defScope s_law_call, [], []⟩
def d_law_told : He.DefD := ⟨("_law_told", none), "_law_told", "_law_told", defArgs s_law_told, defBody s_law_told, defScope s_law_told, [], []⟩
def d_law_begin : He.DefD := ⟨("_law_begin", none), "_law_begin", "_law_begin", defArgs s_law_begin, defBody s_law_begin, defScope s_law_begin, [], []⟩
def d_law_there : He.DefD := ⟨("_law_there", none), "_law_there", "_law_there", defArgs s_law_there, defBody s_law_there, defScope s_law_there, [], []⟩
def d_law_no_box : He.DefD := ⟨("_law_no_box", none), "_law_no_box", "_law_no_box", defArgs s_law_no_box, defBody s_law_no_box, defScope s_law_no_box, [], []⟩
def d_law_names : He.DefD := ⟨("_law_names", none), "_law_names", "_law_names", defArgs s_law_names, defBody s_law_names, defScope s_law_names, [], []⟩
def d_law_free : He.DefD := ⟨("_law_free", none), "_law_free", "_law_free", defArgs s_law_free, defBody s_law_free, defScope s_law_free, [], []⟩
def d_law_within : He.DefD := ⟨("_law_within", none), "_law_within", "_law_within", defArgs s_law_within, defBody s_law_within, defScope s_law_within, [], []⟩
def d_law_used : He.DefD := ⟨("_law_used", none), "_law_used", "_law_used", defArgs s_law_used, defBody s_law_used, defScope s_law_used, [], []⟩
def d_law_lose : He.DefD := ⟨("_law_lose", none), "_law_lose", "_law_lose", defArgs s_law_lose, defBody s_law_lose, defScope s_law_lose, [], []⟩
def d_law_no_room : He.DefD := ⟨("_law_no_room", none), "_law_no_room", "_law_no_room", defArgs s_law_no_room, defBody s_law_no_room, defScope s_law_no_room, [], []⟩
def d_law_do : He.DefD := ⟨("_law_do", none), "_law_do", "_law_do", defArgs s_law_do, defBody s_law_do, defScope s_law_do, [], []⟩
def d_law_make : He.DefD := ⟨("_law_make", none), "_law_make", "_law_make", defArgs s_law_make, defBody s_law_make, defScope s_law_make, [], []⟩
def d_law_place : He.DefD := ⟨("_law_place", none), "_law_place", "_law_place", defArgs s_law_place, defBody s_law_place, defScope s_law_place, [], []⟩
def d_law_write : He.DefD := ⟨("_law_write", none), "_law_write", "_law_write", defArgs s_law_write, defBody s_law_write, defScope s_law_write, [], []⟩
def d_law_copy : He.DefD := ⟨("_law_copy", none), "_law_copy", "_law_copy", defArgs s_law_copy, defBody s_law_copy, defScope s_law_copy, [], []⟩
def d_law_tie : He.DefD := ⟨("_law_tie", none), "_law_tie", "_law_tie", defArgs s_law_tie, defBody s_law_tie, defScope s_law_tie, [], []⟩
def d_law_shelve : He.DefD := ⟨("_law_shelve", none), "_law_shelve", "_law_shelve", defArgs s_law_shelve, defBody s_law_shelve, defScope s_law_shelve, [], []⟩
def d_law_shelf : He.DefD := ⟨("_law_shelf", none), "_law_shelf", "_law_shelf", defArgs s_law_shelf, defBody s_law_shelf, defScope s_law_shelf, [], []⟩
def d_law_is_as : He.DefD := ⟨("_law_is_as", none), "_law_is_as", "_law_is_as", defArgs s_law_is_as, defBody s_law_is_as, defScope s_law_is_as, [], []⟩
def d_law_number : He.DefD := ⟨("_law_number", none), "_law_number", "_law_number", defArgs s_law_number, defBody s_law_number, defScope s_law_number, [], []⟩
def d_law_parent : He.DefD := ⟨("_law_parent", none), "_law_parent", "_law_parent", defArgs s_law_parent, defBody s_law_parent, defScope s_law_parent, [], []⟩
def d_law_letters : He.DefD := ⟨("_law_letters", none), "_law_letters", "_law_letters", defArgs s_law_letters, defBody s_law_letters, defScope s_law_letters, [], []⟩
def d_law_deed : He.DefD := ⟨("_law_deed", none), "_law_deed", "_law_deed", defArgs s_law_deed, defBody s_law_deed, defScope s_law_deed, [], []⟩
def d_law_run : He.DefD := ⟨("_law_run", none), "_law_run", "_law_run", defArgs s_law_run, defBody s_law_run, defScope s_law_run, [], []⟩
def d_law_cells : He.DefD := ⟨("_law_cells", none), "_law_cells", "_law_cells", defArgs s_law_cells, defBody s_law_cells, defScope s_law_cells, [], []⟩
def d_law_path : He.DefD := ⟨("_law_path", none), "_law_path", "_law_path", defArgs s_law_path, defBody s_law_path, defScope s_law_path, [], []⟩
def d_law_names_to : He.DefD := ⟨("_law_names_to", none), "_law_names_to", "_law_names_to", defArgs s_law_names_to, defBody s_law_names_to, defScope s_law_names_to, [], []⟩
def d_law : He.DefD := ⟨("law", none), "law", "law", defArgs s_law, defBody s_law, defScope s_law, [], []⟩
def fn : List He.DefD := [d_free_name, d_House___init__, d_House_is_there, d_House_must, d_House_must_box, d_House_names_in, d_House_must_be_free, d_House_new, d_House_make, d_House_rename, d_House_whole, d_House_move, d_House_row, d_House_things, d_House_path, d_House_at, d_House_must_sheet, d_House_signs_of, d_House_used, d_House_make_room, d_House_write, d_House_text, d_House_used_pairs, d_House_tie, d_House_untie, d_House_ties, d_House_comers, d_House_cast, d_House_bundle, d_House_shelf, d_House_inner, d_House_take_down, d_House_back, d_House_lose, d_House_gone, d_House_empty, d_House_day, d_House_next_day, d_House_copy, d_law_cell, d_law_mix, d_law_same, d_law_word, d_law_call, d_law_told, d_law_begin, d_law_there, d_law_no_box, d_law_names, d_law_free, d_law_within, d_law_used, d_law_lose, d_law_no_room, d_law_do, d_law_make, d_law_place, d_law_write, d_law_copy, d_law_tie, d_law_shelve, d_law_shelf, d_law_is_as, d_law_number, d_law_parent, d_law_letters, d_law_deed, d_law_run, d_law_cells, d_law_path, d_law_names_to, d_law]
def fa : List He.Fa := [.glo "free_name", .meth "House" "is_there", .meth "House" "must", .meth "House" "must_box", .meth "House" "names_in", .meth "House" "must_be_free", .meth "House" "new", .meth "House" "make", .meth "House" "rename", .meth "House" "whole", .meth "House" "move", .meth "House" "row", .meth "House" "things", .meth "House" "path", .meth "House" "at", .meth "House" "must_sheet", .meth "House" "signs_of", .meth "House" "used", .meth "House" "make_room", .meth "House" "write", .meth "House" "text", .meth "House" "used_pairs", .meth "House" "tie", .meth "House" "untie", .meth "House" "ties", .meth "House" "comers", .meth "House" "cast", .meth "House" "bundle", .meth "House" "shelf", .meth "House" "inner", .meth "House" "take_down", .meth "House" "back", .meth "House" "lose", .meth "House" "gone", .meth "House" "empty", .meth "House" "day", .meth "House" "next_day", .meth "House" "copy", .glo "_law_cell", .glo "_law_mix", .glo "_law_same", .glo "_law_word", .glo "_law_call", .glo "_law_told", .glo "_law_begin", .glo "_law_there", .glo "_law_no_box", .glo "_law_names", .glo "_law_free", .glo "_law_within", .glo "_law_used", .glo "_law_lose", .glo "_law_no_room", .glo "_law_do", .glo "_law_make", .glo "_law_place", .glo "_law_write", .glo "_law_copy", .glo "_law_tie", .glo "_law_shelve", .glo "_law_shelf", .glo "_law_is_as", .glo "_law_number", .glo "_law_parent", .glo "_law_letters", .glo "_law_deed", .glo "_law_run", .glo "_law_cells", .glo "_law_path", .glo "_law_names_to", .glo "law", .glo "HouseError", .glo "NoThing", .glo "NoBox", .glo "NoSheet", .glo "Taken", .glo "Inside", .glo "NoRoom", .glo "Same", .glo "NoTie", .glo "NoCast", .glo "House", .free "len", .free "sorted", .free "tuple", .free "sum", .free "list", .free "dict", .free "isinstance", .free "int", .free "str", .free "bool", .free "zip", .free "all", .free "range", .free "enumerate", .free "ValueError", .free "set", .cls "House", .mkr "House", .noat "House" "keep", .noat "House" "room", .noat "House" "rows", .noat "House" "shelved", .noat "House" "casts", .noat "House" "pairs", .noat "House" "today", .noat "House" "count", .exc "NoThing", .exm "NoThing" "HouseError" true, .exc "NoBox", .exm "NoBox" "HouseError" true, .exc "NoSheet", .exm "NoSheet" "HouseError" true, .exc "Taken", .exm "Taken" "HouseError" true, .exc "Inside", .exm "Inside" "HouseError" true, .exc "NoRoom", .exm "NoRoom" "HouseError" true, .exc "Same", .exm "Same" "HouseError" true, .exc "NoTie", .exm "NoTie" "HouseError" true, .exc "NoCast", .exm "NoCast" "HouseError" true]
def excs : List Str := ["NoThing", "NoBox", "NoSheet", "Taken", "Inside", "NoRoom", "Same", "NoTie", "NoCast"]
def excB (K : PySem.W.Frag) (x : Str) : Bool :=
  He.eqO (PySem.W.findIn K (.ref (He.ga K x)) "__getattribute__") (some (some (.builtin "BaseException.__getattribute__"))) &&
  (He.eqO (PySem.W.findIn K (.ref (He.ga K x)) "__getattr__") (some none) &&
  (decide (PySem.W.subIn K (.ref (He.ga K x)) (.type "BaseException") = some true) &&
  (PySem.W.hasDictIn K (He.ga K x) &&
  (He.eqO (PySem.W.findIn K (.ref (He.ga K x)) "__class__") (some (some (.builtin "object.__class__"))) &&
  (He.eqO (PySem.W.specialIn K (.builtin "object.__class__") "__get__") (some (some (.builtin "getset_descriptor.__get__"))) &&
  (decide (PySem.W.takesIn K (.builtin "object.__class__") = some true) &&
  (decide (PySem.W.mroIn K (He.ga K x) (.type "object") = some true) &&
  (decide (PySem.W.kitOne K (.ref (He.ga K x)) (.type "ValueError") = some true) &&
  excs.all fun y => decide (PySem.W.kitOne K (.ref (He.ga K x)) (.ref (He.ga K y)) = some (decide (x = y)))))))))))
def ex (K : PySem.W.Frag) : Bool := excs.all (excB K)
structure Says (K : PySem.W.Frag) (mg : Str → Option Value) : Prop where
  c : He.SaysD fa fn K
  m : ex K = true
  h : ∃ h : Heap, K.In h ∧ h.Ns mainGlobals mg
namespace Says
variable {K : PySem.W.Frag} {mg : Str → Option Value}
theorem glo_ (S : Says K mg) {x : Str} (i : Nat) (h : fa[i]? = some (.glo x) := by rfl) : mg x = some (.ref (He.ga K x)) := let ⟨_, X, G⟩ := S.h; He.glo_ok X G (S.c.fact i h)
theorem free_ (S : Says K mg) {x : Str} (i : Nat) (h : fa[i]? = some (.free x) := by rfl) : mg x = none := let ⟨_, X, G⟩ := S.h; He.free_ok X G (S.c.fact i h)
theorem glo_free_name (S : Says K mg) : mg "free_name" = some (.ref (He.ga K "free_name")) := S.glo_ 0
theorem meth_is_there (S : Says K mg) : Meth K (He.ga K "House") "is_there" (He.fAd K ("House", some "is_there")) := He.meth_ok (S.c.fact 1 (f := .meth "House" "is_there") rfl)
theorem meth_must (S : Says K mg) : Meth K (He.ga K "House") "must" (He.fAd K ("House", some "must")) := He.meth_ok (S.c.fact 2 (f := .meth "House" "must") rfl)
theorem meth_must_box (S : Says K mg) : Meth K (He.ga K "House") "must_box" (He.fAd K ("House", some "must_box")) := He.meth_ok (S.c.fact 3 (f := .meth "House" "must_box") rfl)
theorem meth_names_in (S : Says K mg) : Meth K (He.ga K "House") "names_in" (He.fAd K ("House", some "names_in")) := He.meth_ok (S.c.fact 4 (f := .meth "House" "names_in") rfl)
theorem meth_must_be_free (S : Says K mg) : Meth K (He.ga K "House") "must_be_free" (He.fAd K ("House", some "must_be_free")) := He.meth_ok (S.c.fact 5 (f := .meth "House" "must_be_free") rfl)
theorem meth_new (S : Says K mg) : Meth K (He.ga K "House") "new" (He.fAd K ("House", some "new")) := He.meth_ok (S.c.fact 6 (f := .meth "House" "new") rfl)
theorem meth_make (S : Says K mg) : Meth K (He.ga K "House") "make" (He.fAd K ("House", some "make")) := He.meth_ok (S.c.fact 7 (f := .meth "House" "make") rfl)
theorem meth_rename (S : Says K mg) : Meth K (He.ga K "House") "rename" (He.fAd K ("House", some "rename")) := He.meth_ok (S.c.fact 8 (f := .meth "House" "rename") rfl)
theorem meth_whole (S : Says K mg) : Meth K (He.ga K "House") "whole" (He.fAd K ("House", some "whole")) := He.meth_ok (S.c.fact 9 (f := .meth "House" "whole") rfl)
theorem meth_move (S : Says K mg) : Meth K (He.ga K "House") "move" (He.fAd K ("House", some "move")) := He.meth_ok (S.c.fact 10 (f := .meth "House" "move") rfl)
theorem meth_row (S : Says K mg) : Meth K (He.ga K "House") "row" (He.fAd K ("House", some "row")) := He.meth_ok (S.c.fact 11 (f := .meth "House" "row") rfl)
theorem meth_things (S : Says K mg) : Meth K (He.ga K "House") "things" (He.fAd K ("House", some "things")) := He.meth_ok (S.c.fact 12 (f := .meth "House" "things") rfl)
theorem meth_path (S : Says K mg) : Meth K (He.ga K "House") "path" (He.fAd K ("House", some "path")) := He.meth_ok (S.c.fact 13 (f := .meth "House" "path") rfl)
theorem meth_at (S : Says K mg) : Meth K (He.ga K "House") "at" (He.fAd K ("House", some "at")) := He.meth_ok (S.c.fact 14 (f := .meth "House" "at") rfl)
theorem meth_must_sheet (S : Says K mg) : Meth K (He.ga K "House") "must_sheet" (He.fAd K ("House", some "must_sheet")) := He.meth_ok (S.c.fact 15 (f := .meth "House" "must_sheet") rfl)
theorem meth_signs_of (S : Says K mg) : Meth K (He.ga K "House") "signs_of" (He.fAd K ("House", some "signs_of")) := He.meth_ok (S.c.fact 16 (f := .meth "House" "signs_of") rfl)
theorem meth_used (S : Says K mg) : Meth K (He.ga K "House") "used" (He.fAd K ("House", some "used")) := He.meth_ok (S.c.fact 17 (f := .meth "House" "used") rfl)
theorem meth_make_room (S : Says K mg) : Meth K (He.ga K "House") "make_room" (He.fAd K ("House", some "make_room")) := He.meth_ok (S.c.fact 18 (f := .meth "House" "make_room") rfl)
theorem meth_write (S : Says K mg) : Meth K (He.ga K "House") "write" (He.fAd K ("House", some "write")) := He.meth_ok (S.c.fact 19 (f := .meth "House" "write") rfl)
theorem meth_text (S : Says K mg) : Meth K (He.ga K "House") "text" (He.fAd K ("House", some "text")) := He.meth_ok (S.c.fact 20 (f := .meth "House" "text") rfl)
theorem meth_used_pairs (S : Says K mg) : Meth K (He.ga K "House") "used_pairs" (He.fAd K ("House", some "used_pairs")) := He.meth_ok (S.c.fact 21 (f := .meth "House" "used_pairs") rfl)
theorem meth_tie (S : Says K mg) : Meth K (He.ga K "House") "tie" (He.fAd K ("House", some "tie")) := He.meth_ok (S.c.fact 22 (f := .meth "House" "tie") rfl)
theorem meth_untie (S : Says K mg) : Meth K (He.ga K "House") "untie" (He.fAd K ("House", some "untie")) := He.meth_ok (S.c.fact 23 (f := .meth "House" "untie") rfl)
theorem meth_ties (S : Says K mg) : Meth K (He.ga K "House") "ties" (He.fAd K ("House", some "ties")) := He.meth_ok (S.c.fact 24 (f := .meth "House" "ties") rfl)
theorem meth_comers (S : Says K mg) : Meth K (He.ga K "House") "comers" (He.fAd K ("House", some "comers")) := He.meth_ok (S.c.fact 25 (f := .meth "House" "comers") rfl)
theorem meth_cast (S : Says K mg) : Meth K (He.ga K "House") "cast" (He.fAd K ("House", some "cast")) := He.meth_ok (S.c.fact 26 (f := .meth "House" "cast") rfl)
theorem meth_bundle (S : Says K mg) : Meth K (He.ga K "House") "bundle" (He.fAd K ("House", some "bundle")) := He.meth_ok (S.c.fact 27 (f := .meth "House" "bundle") rfl)
theorem meth_shelf (S : Says K mg) : Meth K (He.ga K "House") "shelf" (He.fAd K ("House", some "shelf")) := He.meth_ok (S.c.fact 28 (f := .meth "House" "shelf") rfl)
theorem meth_inner (S : Says K mg) : Meth K (He.ga K "House") "inner" (He.fAd K ("House", some "inner")) := He.meth_ok (S.c.fact 29 (f := .meth "House" "inner") rfl)
theorem meth_take_down (S : Says K mg) : Meth K (He.ga K "House") "take_down" (He.fAd K ("House", some "take_down")) := He.meth_ok (S.c.fact 30 (f := .meth "House" "take_down") rfl)
theorem meth_back (S : Says K mg) : Meth K (He.ga K "House") "back" (He.fAd K ("House", some "back")) := He.meth_ok (S.c.fact 31 (f := .meth "House" "back") rfl)
theorem meth_lose (S : Says K mg) : Meth K (He.ga K "House") "lose" (He.fAd K ("House", some "lose")) := He.meth_ok (S.c.fact 32 (f := .meth "House" "lose") rfl)
theorem meth_gone (S : Says K mg) : Meth K (He.ga K "House") "gone" (He.fAd K ("House", some "gone")) := He.meth_ok (S.c.fact 33 (f := .meth "House" "gone") rfl)
theorem meth_empty (S : Says K mg) : Meth K (He.ga K "House") "empty" (He.fAd K ("House", some "empty")) := He.meth_ok (S.c.fact 34 (f := .meth "House" "empty") rfl)
theorem meth_day (S : Says K mg) : Meth K (He.ga K "House") "day" (He.fAd K ("House", some "day")) := He.meth_ok (S.c.fact 35 (f := .meth "House" "day") rfl)
theorem meth_next_day (S : Says K mg) : Meth K (He.ga K "House") "next_day" (He.fAd K ("House", some "next_day")) := He.meth_ok (S.c.fact 36 (f := .meth "House" "next_day") rfl)
theorem meth_copy (S : Says K mg) : Meth K (He.ga K "House") "copy" (He.fAd K ("House", some "copy")) := He.meth_ok (S.c.fact 37 (f := .meth "House" "copy") rfl)
theorem glo__law_cell (S : Says K mg) : mg "_law_cell" = some (.ref (He.ga K "_law_cell")) := S.glo_ 38
theorem glo__law_mix (S : Says K mg) : mg "_law_mix" = some (.ref (He.ga K "_law_mix")) := S.glo_ 39
theorem glo__law_same (S : Says K mg) : mg "_law_same" = some (.ref (He.ga K "_law_same")) := S.glo_ 40
theorem glo__law_word (S : Says K mg) : mg "_law_word" = some (.ref (He.ga K "_law_word")) := S.glo_ 41
theorem glo__law_call (S : Says K mg) : mg "_law_call" = some (.ref (He.ga K "_law_call")) := S.glo_ 42
theorem glo__law_told (S : Says K mg) : mg "_law_told" = some (.ref (He.ga K "_law_told")) := S.glo_ 43
theorem glo__law_begin (S : Says K mg) : mg "_law_begin" = some (.ref (He.ga K "_law_begin")) := S.glo_ 44
theorem glo__law_there (S : Says K mg) : mg "_law_there" = some (.ref (He.ga K "_law_there")) := S.glo_ 45
theorem glo__law_no_box (S : Says K mg) : mg "_law_no_box" = some (.ref (He.ga K "_law_no_box")) := S.glo_ 46
theorem glo__law_names (S : Says K mg) : mg "_law_names" = some (.ref (He.ga K "_law_names")) := S.glo_ 47
theorem glo__law_free (S : Says K mg) : mg "_law_free" = some (.ref (He.ga K "_law_free")) := S.glo_ 48
theorem glo__law_within (S : Says K mg) : mg "_law_within" = some (.ref (He.ga K "_law_within")) := S.glo_ 49
theorem glo__law_used (S : Says K mg) : mg "_law_used" = some (.ref (He.ga K "_law_used")) := S.glo_ 50
theorem glo__law_lose (S : Says K mg) : mg "_law_lose" = some (.ref (He.ga K "_law_lose")) := S.glo_ 51
theorem glo__law_no_room (S : Says K mg) : mg "_law_no_room" = some (.ref (He.ga K "_law_no_room")) := S.glo_ 52
theorem glo__law_do (S : Says K mg) : mg "_law_do" = some (.ref (He.ga K "_law_do")) := S.glo_ 53
theorem glo__law_make (S : Says K mg) : mg "_law_make" = some (.ref (He.ga K "_law_make")) := S.glo_ 54
theorem glo__law_place (S : Says K mg) : mg "_law_place" = some (.ref (He.ga K "_law_place")) := S.glo_ 55
theorem glo__law_write (S : Says K mg) : mg "_law_write" = some (.ref (He.ga K "_law_write")) := S.glo_ 56
theorem glo__law_copy (S : Says K mg) : mg "_law_copy" = some (.ref (He.ga K "_law_copy")) := S.glo_ 57
theorem glo__law_tie (S : Says K mg) : mg "_law_tie" = some (.ref (He.ga K "_law_tie")) := S.glo_ 58
theorem glo__law_shelve (S : Says K mg) : mg "_law_shelve" = some (.ref (He.ga K "_law_shelve")) := S.glo_ 59
theorem glo__law_shelf (S : Says K mg) : mg "_law_shelf" = some (.ref (He.ga K "_law_shelf")) := S.glo_ 60
theorem glo__law_is_as (S : Says K mg) : mg "_law_is_as" = some (.ref (He.ga K "_law_is_as")) := S.glo_ 61
theorem glo__law_number (S : Says K mg) : mg "_law_number" = some (.ref (He.ga K "_law_number")) := S.glo_ 62
theorem glo__law_parent (S : Says K mg) : mg "_law_parent" = some (.ref (He.ga K "_law_parent")) := S.glo_ 63
theorem glo__law_letters (S : Says K mg) : mg "_law_letters" = some (.ref (He.ga K "_law_letters")) := S.glo_ 64
theorem glo__law_deed (S : Says K mg) : mg "_law_deed" = some (.ref (He.ga K "_law_deed")) := S.glo_ 65
theorem glo__law_run (S : Says K mg) : mg "_law_run" = some (.ref (He.ga K "_law_run")) := S.glo_ 66
theorem glo__law_cells (S : Says K mg) : mg "_law_cells" = some (.ref (He.ga K "_law_cells")) := S.glo_ 67
theorem glo__law_path (S : Says K mg) : mg "_law_path" = some (.ref (He.ga K "_law_path")) := S.glo_ 68
theorem glo__law_names_to (S : Says K mg) : mg "_law_names_to" = some (.ref (He.ga K "_law_names_to")) := S.glo_ 69
theorem glo_law (S : Says K mg) : mg "law" = some (.ref (He.ga K "law")) := S.glo_ 70
theorem glo_HouseError (S : Says K mg) : mg "HouseError" = some (.ref (He.ga K "HouseError")) := S.glo_ 71
theorem glo_NoThing (S : Says K mg) : mg "NoThing" = some (.ref (He.ga K "NoThing")) := S.glo_ 72
theorem glo_NoBox (S : Says K mg) : mg "NoBox" = some (.ref (He.ga K "NoBox")) := S.glo_ 73
theorem glo_NoSheet (S : Says K mg) : mg "NoSheet" = some (.ref (He.ga K "NoSheet")) := S.glo_ 74
theorem glo_Taken (S : Says K mg) : mg "Taken" = some (.ref (He.ga K "Taken")) := S.glo_ 75
theorem glo_Inside (S : Says K mg) : mg "Inside" = some (.ref (He.ga K "Inside")) := S.glo_ 76
theorem glo_NoRoom (S : Says K mg) : mg "NoRoom" = some (.ref (He.ga K "NoRoom")) := S.glo_ 77
theorem glo_Same (S : Says K mg) : mg "Same" = some (.ref (He.ga K "Same")) := S.glo_ 78
theorem glo_NoTie (S : Says K mg) : mg "NoTie" = some (.ref (He.ga K "NoTie")) := S.glo_ 79
theorem glo_NoCast (S : Says K mg) : mg "NoCast" = some (.ref (He.ga K "NoCast")) := S.glo_ 80
theorem glo_House (S : Says K mg) : mg "House" = some (.ref (He.ga K "House")) := S.glo_ 81
theorem free_len (S : Says K mg) : mg "len" = none := S.free_ 82
theorem free_sorted (S : Says K mg) : mg "sorted" = none := S.free_ 83
theorem free_tuple (S : Says K mg) : mg "tuple" = none := S.free_ 84
theorem free_sum (S : Says K mg) : mg "sum" = none := S.free_ 85
theorem free_list (S : Says K mg) : mg "list" = none := S.free_ 86
theorem free_dict (S : Says K mg) : mg "dict" = none := S.free_ 87
theorem free_isinstance (S : Says K mg) : mg "isinstance" = none := S.free_ 88
theorem free_int (S : Says K mg) : mg "int" = none := S.free_ 89
theorem free_str (S : Says K mg) : mg "str" = none := S.free_ 90
theorem free_bool (S : Says K mg) : mg "bool" = none := S.free_ 91
theorem free_zip (S : Says K mg) : mg "zip" = none := S.free_ 92
theorem free_all (S : Says K mg) : mg "all" = none := S.free_ 93
theorem free_range (S : Says K mg) : mg "range" = none := S.free_ 94
theorem free_enumerate (S : Says K mg) : mg "enumerate" = none := S.free_ 95
theorem free_ValueError (S : Says K mg) : mg "ValueError" = none := S.free_ 96
theorem free_set (S : Says K mg) : mg "set" = none := S.free_ 97
theorem cls_House (S : Says K mg) : Cls K (He.ga K "House") := He.cls_ok (S.c.fact 98 (f := .cls "House") rfl)
theorem mk_House (S : Says K mg) : Mk K (He.ga K "House") (He.fAd K ("House", some "__init__")) := He.mkr_ok (S.c.fact 99 (f := .mkr "House") rfl)
theorem na_keep (S : Says K mg) : NoAttr K (He.ga K "House") "keep" := He.noat_ok (S.c.fact 100 (f := .noat "House" "keep") rfl)
theorem na_room (S : Says K mg) : NoAttr K (He.ga K "House") "room" := He.noat_ok (S.c.fact 101 (f := .noat "House" "room") rfl)
theorem na_rows (S : Says K mg) : NoAttr K (He.ga K "House") "rows" := He.noat_ok (S.c.fact 102 (f := .noat "House" "rows") rfl)
theorem na_shelved (S : Says K mg) : NoAttr K (He.ga K "House") "shelved" := He.noat_ok (S.c.fact 103 (f := .noat "House" "shelved") rfl)
theorem na_casts (S : Says K mg) : NoAttr K (He.ga K "House") "casts" := He.noat_ok (S.c.fact 104 (f := .noat "House" "casts") rfl)
theorem na_pairs (S : Says K mg) : NoAttr K (He.ga K "House") "pairs" := He.noat_ok (S.c.fact 105 (f := .noat "House" "pairs") rfl)
theorem na_today (S : Says K mg) : NoAttr K (He.ga K "House") "today" := He.noat_ok (S.c.fact 106 (f := .noat "House" "today") rfl)
theorem na_count (S : Says K mg) : NoAttr K (He.ga K "House") "count" := He.noat_ok (S.c.fact 107 (f := .noat "House" "count") rfl)
theorem exc_NoThing (S : Says K mg) : PySem.W.excIn K (He.ga K "NoThing") He.veBase "ValueError.__new__" = true ∧ PySem.W.keepIn K (.ref (He.ga K "NoThing")) = true ∧ PySem.W.subIn K (.ref (He.ga K "NoThing")) (.type "BaseException") = some true ∧ PySem.W.typeIn K (.ref (He.ga K "NoThing")) = some (.type "type") := He.exc_ok (S.c.fact 108 (f := .exc "NoThing") rfl)
theorem exm_NoThing (S : Says K mg) : PySem.W.exmOne K (.ref (He.ga K "NoThing")) (.ref (He.ga K "HouseError")) = some true := He.exm_ok (S.c.fact 109 (f := .exm "NoThing" "HouseError" true) rfl)
theorem exc_NoBox (S : Says K mg) : PySem.W.excIn K (He.ga K "NoBox") He.veBase "ValueError.__new__" = true ∧ PySem.W.keepIn K (.ref (He.ga K "NoBox")) = true ∧ PySem.W.subIn K (.ref (He.ga K "NoBox")) (.type "BaseException") = some true ∧ PySem.W.typeIn K (.ref (He.ga K "NoBox")) = some (.type "type") := He.exc_ok (S.c.fact 110 (f := .exc "NoBox") rfl)
theorem exm_NoBox (S : Says K mg) : PySem.W.exmOne K (.ref (He.ga K "NoBox")) (.ref (He.ga K "HouseError")) = some true := He.exm_ok (S.c.fact 111 (f := .exm "NoBox" "HouseError" true) rfl)
theorem exc_NoSheet (S : Says K mg) : PySem.W.excIn K (He.ga K "NoSheet") He.veBase "ValueError.__new__" = true ∧ PySem.W.keepIn K (.ref (He.ga K "NoSheet")) = true ∧ PySem.W.subIn K (.ref (He.ga K "NoSheet")) (.type "BaseException") = some true ∧ PySem.W.typeIn K (.ref (He.ga K "NoSheet")) = some (.type "type") := He.exc_ok (S.c.fact 112 (f := .exc "NoSheet") rfl)
theorem exm_NoSheet (S : Says K mg) : PySem.W.exmOne K (.ref (He.ga K "NoSheet")) (.ref (He.ga K "HouseError")) = some true := He.exm_ok (S.c.fact 113 (f := .exm "NoSheet" "HouseError" true) rfl)
theorem exc_Taken (S : Says K mg) : PySem.W.excIn K (He.ga K "Taken") He.veBase "ValueError.__new__" = true ∧ PySem.W.keepIn K (.ref (He.ga K "Taken")) = true ∧ PySem.W.subIn K (.ref (He.ga K "Taken")) (.type "BaseException") = some true ∧ PySem.W.typeIn K (.ref (He.ga K "Taken")) = some (.type "type") := He.exc_ok (S.c.fact 114 (f := .exc "Taken") rfl)
theorem exm_Taken (S : Says K mg) : PySem.W.exmOne K (.ref (He.ga K "Taken")) (.ref (He.ga K "HouseError")) = some true := He.exm_ok (S.c.fact 115 (f := .exm "Taken" "HouseError" true) rfl)
theorem exc_Inside (S : Says K mg) : PySem.W.excIn K (He.ga K "Inside") He.veBase "ValueError.__new__" = true ∧ PySem.W.keepIn K (.ref (He.ga K "Inside")) = true ∧ PySem.W.subIn K (.ref (He.ga K "Inside")) (.type "BaseException") = some true ∧ PySem.W.typeIn K (.ref (He.ga K "Inside")) = some (.type "type") := He.exc_ok (S.c.fact 116 (f := .exc "Inside") rfl)
theorem exm_Inside (S : Says K mg) : PySem.W.exmOne K (.ref (He.ga K "Inside")) (.ref (He.ga K "HouseError")) = some true := He.exm_ok (S.c.fact 117 (f := .exm "Inside" "HouseError" true) rfl)
theorem exc_NoRoom (S : Says K mg) : PySem.W.excIn K (He.ga K "NoRoom") He.veBase "ValueError.__new__" = true ∧ PySem.W.keepIn K (.ref (He.ga K "NoRoom")) = true ∧ PySem.W.subIn K (.ref (He.ga K "NoRoom")) (.type "BaseException") = some true ∧ PySem.W.typeIn K (.ref (He.ga K "NoRoom")) = some (.type "type") := He.exc_ok (S.c.fact 118 (f := .exc "NoRoom") rfl)
theorem exm_NoRoom (S : Says K mg) : PySem.W.exmOne K (.ref (He.ga K "NoRoom")) (.ref (He.ga K "HouseError")) = some true := He.exm_ok (S.c.fact 119 (f := .exm "NoRoom" "HouseError" true) rfl)
theorem exc_Same (S : Says K mg) : PySem.W.excIn K (He.ga K "Same") He.veBase "ValueError.__new__" = true ∧ PySem.W.keepIn K (.ref (He.ga K "Same")) = true ∧ PySem.W.subIn K (.ref (He.ga K "Same")) (.type "BaseException") = some true ∧ PySem.W.typeIn K (.ref (He.ga K "Same")) = some (.type "type") := He.exc_ok (S.c.fact 120 (f := .exc "Same") rfl)
theorem exm_Same (S : Says K mg) : PySem.W.exmOne K (.ref (He.ga K "Same")) (.ref (He.ga K "HouseError")) = some true := He.exm_ok (S.c.fact 121 (f := .exm "Same" "HouseError" true) rfl)
theorem exc_NoTie (S : Says K mg) : PySem.W.excIn K (He.ga K "NoTie") He.veBase "ValueError.__new__" = true ∧ PySem.W.keepIn K (.ref (He.ga K "NoTie")) = true ∧ PySem.W.subIn K (.ref (He.ga K "NoTie")) (.type "BaseException") = some true ∧ PySem.W.typeIn K (.ref (He.ga K "NoTie")) = some (.type "type") := He.exc_ok (S.c.fact 122 (f := .exc "NoTie") rfl)
theorem exm_NoTie (S : Says K mg) : PySem.W.exmOne K (.ref (He.ga K "NoTie")) (.ref (He.ga K "HouseError")) = some true := He.exm_ok (S.c.fact 123 (f := .exm "NoTie" "HouseError" true) rfl)
theorem exc_NoCast (S : Says K mg) : PySem.W.excIn K (He.ga K "NoCast") He.veBase "ValueError.__new__" = true ∧ PySem.W.keepIn K (.ref (He.ga K "NoCast")) = true ∧ PySem.W.subIn K (.ref (He.ga K "NoCast")) (.type "BaseException") = some true ∧ PySem.W.typeIn K (.ref (He.ga K "NoCast")) = some (.type "type") := He.exc_ok (S.c.fact 124 (f := .exc "NoCast") rfl)
theorem exm_NoCast (S : Says K mg) : PySem.W.exmOne K (.ref (He.ga K "NoCast")) (.ref (He.ga K "HouseError")) = some true := He.exm_ok (S.c.fact 125 (f := .exm "NoCast" "HouseError" true) rfl)
theorem df_free_name (S : Says K mg) : Df K "free_name" "free_name" s_free_name (He.fAd K ("free_name", none)) ["name", "taken"] := let ⟨fd, F⟩ := S.c.def_ 0 (d := d_free_name) rfl; ⟨fd, F, FunD.bindsN F fun _ _ _ _ _ _ us hl => match us, hl with | [_, _], _ => rfl⟩
theorem df_House___init__ (S : Says K mg) : Df K "__init__" "House.__init__" s_House___init__ (He.fAd K ("House", some "__init__")) ["self", "keep", "room"] := let ⟨fd, F⟩ := S.c.def_ 1 (d := d_House___init__) rfl; ⟨fd, F, FunD.bindsN F fun _ _ _ _ _ _ us hl => match us, hl with | [_, _, _], _ => rfl⟩
theorem df_House_is_there (S : Says K mg) : Df K "is_there" "House.is_there" s_House_is_there (He.fAd K ("House", some "is_there")) ["self", "number"] := let ⟨fd, F⟩ := S.c.def_ 2 (d := d_House_is_there) rfl; ⟨fd, F, FunD.bindsN F fun _ _ _ _ _ _ us hl => match us, hl with | [_, _], _ => rfl⟩
theorem df_House_must (S : Says K mg) : Df K "must" "House.must" s_House_must (He.fAd K ("House", some "must")) ["self", "number"] := let ⟨fd, F⟩ := S.c.def_ 3 (d := d_House_must) rfl; ⟨fd, F, FunD.bindsN F fun _ _ _ _ _ _ us hl => match us, hl with | [_, _], _ => rfl⟩
theorem df_House_must_box (S : Says K mg) : Df K "must_box" "House.must_box" s_House_must_box (He.fAd K ("House", some "must_box")) ["self", "parent"] := let ⟨fd, F⟩ := S.c.def_ 4 (d := d_House_must_box) rfl; ⟨fd, F, FunD.bindsN F fun _ _ _ _ _ _ us hl => match us, hl with | [_, _], _ => rfl⟩
theorem df_House_names_in (S : Says K mg) : Df K "names_in" "House.names_in" s_House_names_in (He.fAd K ("House", some "names_in")) ["self", "parent", "but"] := let ⟨fd, F⟩ := S.c.def_ 5 (d := d_House_names_in) rfl; ⟨fd, F, FunD.bindsN F fun _ _ _ _ _ _ us hl => match us, hl with | [_, _, _], _ => rfl⟩
theorem df_House_must_be_free (S : Says K mg) : Df K "must_be_free" "House.must_be_free" s_House_must_be_free (He.fAd K ("House", some "must_be_free")) ["self", "parent", "name", "but"] := let ⟨fd, F⟩ := S.c.def_ 6 (d := d_House_must_be_free) rfl; ⟨fd, F, FunD.bindsN F fun _ _ _ _ _ _ us hl => match us, hl with | [_, _, _, _], _ => rfl⟩
theorem df_House_new (S : Says K mg) : Df K "new" "House.new" s_House_new (He.fAd K ("House", some "new")) ["self", "parent", "name", "text"] := let ⟨fd, F⟩ := S.c.def_ 7 (d := d_House_new) rfl; ⟨fd, F, FunD.bindsN F fun _ _ _ _ _ _ us hl => match us, hl with | [_, _, _, _], _ => rfl⟩
theorem df_House_make (S : Says K mg) : Df K "make" "House.make" s_House_make (He.fAd K ("House", some "make")) ["self", "parent", "name", "is_box"] := let ⟨fd, F⟩ := S.c.def_ 8 (d := d_House_make) rfl; ⟨fd, F, FunD.bindsN F fun _ _ _ _ _ _ us hl => match us, hl with | [_, _, _, _], _ => rfl⟩
theorem df_House_rename (S : Says K mg) : Df K "rename" "House.rename" s_House_rename (He.fAd K ("House", some "rename")) ["self", "number", "name"] := let ⟨fd, F⟩ := S.c.def_ 9 (d := d_House_rename) rfl; ⟨fd, F, FunD.bindsN F fun _ _ _ _ _ _ us hl => match us, hl with | [_, _, _], _ => rfl⟩
theorem df_House_whole (S : Says K mg) : Df K "whole" "House.whole" s_House_whole (He.fAd K ("House", some "whole")) ["self", "number"] := let ⟨fd, F⟩ := S.c.def_ 10 (d := d_House_whole) rfl; ⟨fd, F, FunD.bindsN F fun _ _ _ _ _ _ us hl => match us, hl with | [_, _], _ => rfl⟩
theorem df_House_move (S : Says K mg) : Df K "move" "House.move" s_House_move (He.fAd K ("House", some "move")) ["self", "number", "parent"] := let ⟨fd, F⟩ := S.c.def_ 11 (d := d_House_move) rfl; ⟨fd, F, FunD.bindsN F fun _ _ _ _ _ _ us hl => match us, hl with | [_, _, _], _ => rfl⟩
theorem df_House_row (S : Says K mg) : Df K "row" "House.row" s_House_row (He.fAd K ("House", some "row")) ["self", "number"] := let ⟨fd, F⟩ := S.c.def_ 12 (d := d_House_row) rfl; ⟨fd, F, FunD.bindsN F fun _ _ _ _ _ _ us hl => match us, hl with | [_, _], _ => rfl⟩
theorem df_House_things (S : Says K mg) : Df K "things" "House.things" s_House_things (He.fAd K ("House", some "things")) ["self"] := let ⟨fd, F⟩ := S.c.def_ 13 (d := d_House_things) rfl; ⟨fd, F, FunD.bindsN F fun _ _ _ _ _ _ us hl => match us, hl with | [_], _ => rfl⟩
theorem df_House_path (S : Says K mg) : Df K "path" "House.path" s_House_path (He.fAd K ("House", some "path")) ["self", "number"] := let ⟨fd, F⟩ := S.c.def_ 14 (d := d_House_path) rfl; ⟨fd, F, FunD.bindsN F fun _ _ _ _ _ _ us hl => match us, hl with | [_, _], _ => rfl⟩
theorem df_House_at (S : Says K mg) : Df K "at" "House.at" s_House_at (He.fAd K ("House", some "at")) ["self", "path"] := let ⟨fd, F⟩ := S.c.def_ 15 (d := d_House_at) rfl; ⟨fd, F, FunD.bindsN F fun _ _ _ _ _ _ us hl => match us, hl with | [_, _], _ => rfl⟩
theorem df_House_must_sheet (S : Says K mg) : Df K "must_sheet" "House.must_sheet" s_House_must_sheet (He.fAd K ("House", some "must_sheet")) ["self", "number"] := let ⟨fd, F⟩ := S.c.def_ 16 (d := d_House_must_sheet) rfl; ⟨fd, F, FunD.bindsN F fun _ _ _ _ _ _ us hl => match us, hl with | [_, _], _ => rfl⟩
theorem df_House_signs_of (S : Says K mg) : Df K "signs_of" "House.signs_of" s_House_signs_of (He.fAd K ("House", some "signs_of")) ["self", "numbers"] := let ⟨fd, F⟩ := S.c.def_ 17 (d := d_House_signs_of) rfl; ⟨fd, F, FunD.bindsN F fun _ _ _ _ _ _ us hl => match us, hl with | [_, _], _ => rfl⟩
theorem df_House_used (S : Says K mg) : Df K "used" "House.used" s_House_used (He.fAd K ("House", some "used")) ["self"] := let ⟨fd, F⟩ := S.c.def_ 18 (d := d_House_used) rfl; ⟨fd, F, FunD.bindsN F fun _ _ _ _ _ _ us hl => match us, hl with | [_], _ => rfl⟩
theorem df_House_make_room (S : Says K mg) : Df K "make_room" "House.make_room" s_House_make_room (He.fAd K ("House", some "make_room")) ["self", "more"] := let ⟨fd, F⟩ := S.c.def_ 19 (d := d_House_make_room) rfl; ⟨fd, F, FunD.bindsN F fun _ _ _ _ _ _ us hl => match us, hl with | [_, _], _ => rfl⟩
theorem df_House_write (S : Says K mg) : Df K "write" "House.write" s_House_write (He.fAd K ("House", some "write")) ["self", "number", "text"] := let ⟨fd, F⟩ := S.c.def_ 20 (d := d_House_write) rfl; ⟨fd, F, FunD.bindsN F fun _ _ _ _ _ _ us hl => match us, hl with | [_, _, _], _ => rfl⟩
theorem df_House_text (S : Says K mg) : Df K "text" "House.text" s_House_text (He.fAd K ("House", some "text")) ["self", "number"] := let ⟨fd, F⟩ := S.c.def_ 21 (d := d_House_text) rfl; ⟨fd, F, FunD.bindsN F fun _ _ _ _ _ _ us hl => match us, hl with | [_, _], _ => rfl⟩
theorem df_House_used_pairs (S : Says K mg) : Df K "used_pairs" "House.used_pairs" s_House_used_pairs (He.fAd K ("House", some "used_pairs")) ["self"] := let ⟨fd, F⟩ := S.c.def_ 22 (d := d_House_used_pairs) rfl; ⟨fd, F, FunD.bindsN F fun _ _ _ _ _ _ us hl => match us, hl with | [_], _ => rfl⟩
theorem df_House_tie (S : Says K mg) : Df K "tie" "House.tie" s_House_tie (He.fAd K ("House", some "tie")) ["self", "one", "other"] := let ⟨fd, F⟩ := S.c.def_ 23 (d := d_House_tie) rfl; ⟨fd, F, FunD.bindsN F fun _ _ _ _ _ _ us hl => match us, hl with | [_, _, _], _ => rfl⟩
theorem df_House_untie (S : Says K mg) : Df K "untie" "House.untie" s_House_untie (He.fAd K ("House", some "untie")) ["self", "one", "other"] := let ⟨fd, F⟩ := S.c.def_ 24 (d := d_House_untie) rfl; ⟨fd, F, FunD.bindsN F fun _ _ _ _ _ _ us hl => match us, hl with | [_, _, _], _ => rfl⟩
theorem df_House_ties (S : Says K mg) : Df K "ties" "House.ties" s_House_ties (He.fAd K ("House", some "ties")) ["self", "number"] := let ⟨fd, F⟩ := S.c.def_ 25 (d := d_House_ties) rfl; ⟨fd, F, FunD.bindsN F fun _ _ _ _ _ _ us hl => match us, hl with | [_, _], _ => rfl⟩
theorem df_House_comers (S : Says K mg) : Df K "comers" "House.comers" s_House_comers (He.fAd K ("House", some "comers")) ["self", "number"] := let ⟨fd, F⟩ := S.c.def_ 26 (d := d_House_comers) rfl; ⟨fd, F, FunD.bindsN F fun _ _ _ _ _ _ us hl => match us, hl with | [_, _], _ => rfl⟩
theorem df_House_cast (S : Says K mg) : Df K "cast" "House.cast" s_House_cast (He.fAd K ("House", some "cast")) ["self", "number"] := let ⟨fd, F⟩ := S.c.def_ 27 (d := d_House_cast) rfl; ⟨fd, F, FunD.bindsN F fun _ _ _ _ _ _ us hl => match us, hl with | [_, _], _ => rfl⟩
theorem df_House_bundle (S : Says K mg) : Df K "bundle" "House.bundle" s_House_bundle (He.fAd K ("House", some "bundle")) ["self", "number"] := let ⟨fd, F⟩ := S.c.def_ 28 (d := d_House_bundle) rfl; ⟨fd, F, FunD.bindsN F fun _ _ _ _ _ _ us hl => match us, hl with | [_, _], _ => rfl⟩
theorem df_House_shelf (S : Says K mg) : Df K "shelf" "House.shelf" s_House_shelf (He.fAd K ("House", some "shelf")) ["self"] := let ⟨fd, F⟩ := S.c.def_ 29 (d := d_House_shelf) rfl; ⟨fd, F, FunD.bindsN F fun _ _ _ _ _ _ us hl => match us, hl with | [_], _ => rfl⟩
theorem df_House_inner (S : Says K mg) : Df K "inner" "House.inner" s_House_inner (He.fAd K ("House", some "inner")) ["self", "number"] := let ⟨fd, F⟩ := S.c.def_ 30 (d := d_House_inner) rfl; ⟨fd, F, FunD.bindsN F fun _ _ _ _ _ _ us hl => match us, hl with | [_, _], _ => rfl⟩
theorem df_House_take_down (S : Says K mg) : Df K "take_down" "House.take_down" s_House_take_down (He.fAd K ("House", some "take_down")) ["self", "number"] := let ⟨fd, F⟩ := S.c.def_ 31 (d := d_House_take_down) rfl; ⟨fd, F, FunD.bindsN F fun _ _ _ _ _ _ us hl => match us, hl with | [_, _], _ => rfl⟩
theorem df_House_back (S : Says K mg) : Df K "back" "House.back" s_House_back (He.fAd K ("House", some "back")) ["self", "number"] := let ⟨fd, F⟩ := S.c.def_ 32 (d := d_House_back) rfl; ⟨fd, F, FunD.bindsN F fun _ _ _ _ _ _ us hl => match us, hl with | [_, _], _ => rfl⟩
theorem df_House_lose (S : Says K mg) : Df K "lose" "House.lose" s_House_lose (He.fAd K ("House", some "lose")) ["self", "number"] := let ⟨fd, F⟩ := S.c.def_ 33 (d := d_House_lose) rfl; ⟨fd, F, FunD.bindsN F fun _ _ _ _ _ _ us hl => match us, hl with | [_, _], _ => rfl⟩
theorem df_House_gone (S : Says K mg) : Df K "gone" "House.gone" s_House_gone (He.fAd K ("House", some "gone")) ["self", "number"] := let ⟨fd, F⟩ := S.c.def_ 34 (d := d_House_gone) rfl; ⟨fd, F, FunD.bindsN F fun _ _ _ _ _ _ us hl => match us, hl with | [_, _], _ => rfl⟩
theorem df_House_empty (S : Says K mg) : Df K "empty" "House.empty" s_House_empty (He.fAd K ("House", some "empty")) ["self"] := let ⟨fd, F⟩ := S.c.def_ 35 (d := d_House_empty) rfl; ⟨fd, F, FunD.bindsN F fun _ _ _ _ _ _ us hl => match us, hl with | [_], _ => rfl⟩
theorem df_House_day (S : Says K mg) : Df K "day" "House.day" s_House_day (He.fAd K ("House", some "day")) ["self"] := let ⟨fd, F⟩ := S.c.def_ 36 (d := d_House_day) rfl; ⟨fd, F, FunD.bindsN F fun _ _ _ _ _ _ us hl => match us, hl with | [_], _ => rfl⟩
theorem df_House_next_day (S : Says K mg) : Df K "next_day" "House.next_day" s_House_next_day (He.fAd K ("House", some "next_day")) ["self"] := let ⟨fd, F⟩ := S.c.def_ 37 (d := d_House_next_day) rfl; ⟨fd, F, FunD.bindsN F fun _ _ _ _ _ _ us hl => match us, hl with | [_], _ => rfl⟩
theorem df_House_copy (S : Says K mg) : Df K "copy" "House.copy" s_House_copy (He.fAd K ("House", some "copy")) ["self", "number", "parent"] := let ⟨fd, F⟩ := S.c.def_ 38 (d := d_House_copy) rfl; ⟨fd, F, FunD.bindsN F fun _ _ _ _ _ _ us hl => match us, hl with | [_, _, _], _ => rfl⟩
theorem df_law_cell (S : Says K mg) : Df K "_law_cell" "_law_cell" s_law_cell (He.fAd K ("_law_cell", none)) ["script", "k"] := let ⟨fd, F⟩ := S.c.def_ 39 (d := d_law_cell) rfl; ⟨fd, F, FunD.bindsN F fun _ _ _ _ _ _ us hl => match us, hl with | [_, _], _ => rfl⟩
theorem df_law_mix (S : Says K mg) : Df K "_law_mix" "_law_mix" s_law_mix (He.fAd K ("_law_mix", none)) ["cell", "prime", "many"] := let ⟨fd, F⟩ := S.c.def_ 40 (d := d_law_mix) rfl; ⟨fd, F, FunD.bindsN F fun _ _ _ _ _ _ us hl => match us, hl with | [_, _, _], _ => rfl⟩
theorem df_law_same (S : Says K mg) : Df K "_law_same" "_law_same" s_law_same (He.fAd K ("_law_same", none)) ["found", "due"] := let ⟨fd, F⟩ := S.c.def_ 41 (d := d_law_same) rfl; ⟨fd, F, FunD.bindsN F fun _ _ _ _ _ _ us hl => match us, hl with | [_, _], _ => rfl⟩
theorem df_law_word (S : Says K mg) : Df K "_law_word" "_law_word" s_law_word (He.fAd K ("_law_word", none)) ["kept"] := let ⟨fd, F⟩ := S.c.def_ 42 (d := d_law_word) rfl; ⟨fd, F, FunD.bindsN F fun _ _ _ _ _ _ us hl => match us, hl with | [_], _ => rfl⟩
theorem df_law_call (S : Says K mg) : Df K "_law_call" "_law_call" s_law_call (He.fAd K ("_law_call", none)) ["house", "deed"] := let ⟨fd, F⟩ := S.c.def_ 43 (d := d_law_call) rfl; ⟨fd, F, FunD.bindsN F fun _ _ _ _ _ _ us hl => match us, hl with | [_, _], _ => rfl⟩
theorem df_law_told (S : Says K mg) : Df K "_law_told" "_law_told" s_law_told (He.fAd K ("_law_told", none)) ["house", "deed"] := let ⟨fd, F⟩ := S.c.def_ 44 (d := d_law_told) rfl; ⟨fd, F, FunD.bindsN F fun _ _ _ _ _ _ us hl => match us, hl with | [_, _], _ => rfl⟩
theorem df_law_begin (S : Says K mg) : Df K "_law_begin" "_law_begin" s_law_begin (He.fAd K ("_law_begin", none)) ["keep", "room"] := let ⟨fd, F⟩ := S.c.def_ 45 (d := d_law_begin) rfl; ⟨fd, F, FunD.bindsN F fun _ _ _ _ _ _ us hl => match us, hl with | [_, _], _ => rfl⟩
theorem df_law_there (S : Says K mg) : Df K "_law_there" "_law_there" s_law_there (He.fAd K ("_law_there", none)) ["state", "number"] := let ⟨fd, F⟩ := S.c.def_ 46 (d := d_law_there) rfl; ⟨fd, F, FunD.bindsN F fun _ _ _ _ _ _ us hl => match us, hl with | [_, _], _ => rfl⟩
theorem df_law_no_box (S : Says K mg) : Df K "_law_no_box" "_law_no_box" s_law_no_box (He.fAd K ("_law_no_box", none)) ["state", "parent"] := let ⟨fd, F⟩ := S.c.def_ 47 (d := d_law_no_box) rfl; ⟨fd, F, FunD.bindsN F fun _ _ _ _ _ _ us hl => match us, hl with | [_, _], _ => rfl⟩
theorem df_law_names (S : Says K mg) : Df K "_law_names" "_law_names" s_law_names (He.fAd K ("_law_names", none)) ["state", "parent", "but"] := let ⟨fd, F⟩ := S.c.def_ 48 (d := d_law_names) rfl; ⟨fd, F, FunD.bindsN F fun _ _ _ _ _ _ us hl => match us, hl with | [_, _, _], _ => rfl⟩
theorem df_law_free (S : Says K mg) : Df K "_law_free" "_law_free" s_law_free (He.fAd K ("_law_free", none)) ["state", "parent", "name"] := let ⟨fd, F⟩ := S.c.def_ 49 (d := d_law_free) rfl; ⟨fd, F, FunD.bindsN F fun _ _ _ _ _ _ us hl => match us, hl with | [_, _, _], _ => rfl⟩
theorem df_law_within (S : Says K mg) : Df K "_law_within" "_law_within" s_law_within (He.fAd K ("_law_within", none)) ["state", "number"] := let ⟨fd, F⟩ := S.c.def_ 50 (d := d_law_within) rfl; ⟨fd, F, FunD.bindsN F fun _ _ _ _ _ _ us hl => match us, hl with | [_, _], _ => rfl⟩
theorem df_law_used (S : Says K mg) : Df K "_law_used" "_law_used" s_law_used (He.fAd K ("_law_used", none)) ["state"] := let ⟨fd, F⟩ := S.c.def_ 51 (d := d_law_used) rfl; ⟨fd, F, FunD.bindsN F fun _ _ _ _ _ _ us hl => match us, hl with | [_], _ => rfl⟩
theorem df_law_lose (S : Says K mg) : Df K "_law_lose" "_law_lose" s_law_lose (He.fAd K ("_law_lose", none)) ["state", "number"] := let ⟨fd, F⟩ := S.c.def_ 52 (d := d_law_lose) rfl; ⟨fd, F, FunD.bindsN F fun _ _ _ _ _ _ us hl => match us, hl with | [_, _], _ => rfl⟩
theorem df_law_no_room (S : Says K mg) : Df K "_law_no_room" "_law_no_room" s_law_no_room (He.fAd K ("_law_no_room", none)) ["state", "more"] := let ⟨fd, F⟩ := S.c.def_ 53 (d := d_law_no_room) rfl; ⟨fd, F, FunD.bindsN F fun _ _ _ _ _ _ us hl => match us, hl with | [_, _], _ => rfl⟩
theorem df_law_do (S : Says K mg) : Df K "_law_do" "_law_do" s_law_do (He.fAd K ("_law_do", none)) ["state", "deed"] := let ⟨fd, F⟩ := S.c.def_ 54 (d := d_law_do) rfl; ⟨fd, F, FunD.bindsN F fun _ _ _ _ _ _ us hl => match us, hl with | [_, _], _ => rfl⟩
theorem df_law_make (S : Says K mg) : Df K "_law_make" "_law_make" s_law_make (He.fAd K ("_law_make", none)) ["state", "rest"] := let ⟨fd, F⟩ := S.c.def_ 55 (d := d_law_make) rfl; ⟨fd, F, FunD.bindsN F fun _ _ _ _ _ _ us hl => match us, hl with | [_, _], _ => rfl⟩
theorem df_law_place (S : Says K mg) : Df K "_law_place" "_law_place" s_law_place (He.fAd K ("_law_place", none)) ["state", "word", "rest"] := let ⟨fd, F⟩ := S.c.def_ 56 (d := d_law_place) rfl; ⟨fd, F, FunD.bindsN F fun _ _ _ _ _ _ us hl => match us, hl with | [_, _, _], _ => rfl⟩
theorem df_law_write (S : Says K mg) : Df K "_law_write" "_law_write" s_law_write (He.fAd K ("_law_write", none)) ["state", "rest"] := let ⟨fd, F⟩ := S.c.def_ 57 (d := d_law_write) rfl; ⟨fd, F, FunD.bindsN F fun _ _ _ _ _ _ us hl => match us, hl with | [_, _], _ => rfl⟩
theorem df_law_copy (S : Says K mg) : Df K "_law_copy" "_law_copy" s_law_copy (He.fAd K ("_law_copy", none)) ["state", "rest"] := let ⟨fd, F⟩ := S.c.def_ 58 (d := d_law_copy) rfl; ⟨fd, F, FunD.bindsN F fun _ _ _ _ _ _ us hl => match us, hl with | [_, _], _ => rfl⟩
theorem df_law_tie (S : Says K mg) : Df K "_law_tie" "_law_tie" s_law_tie (He.fAd K ("_law_tie", none)) ["state", "word", "rest"] := let ⟨fd, F⟩ := S.c.def_ 59 (d := d_law_tie) rfl; ⟨fd, F, FunD.bindsN F fun _ _ _ _ _ _ us hl => match us, hl with | [_, _, _], _ => rfl⟩
theorem df_law_shelve (S : Says K mg) : Df K "_law_shelve" "_law_shelve" s_law_shelve (He.fAd K ("_law_shelve", none)) ["state", "word", "number"] := let ⟨fd, F⟩ := S.c.def_ 60 (d := d_law_shelve) rfl; ⟨fd, F, FunD.bindsN F fun _ _ _ _ _ _ us hl => match us, hl with | [_, _, _], _ => rfl⟩
theorem df_law_shelf (S : Says K mg) : Df K "_law_shelf" "_law_shelf" s_law_shelf (He.fAd K ("_law_shelf", none)) ["state"] := let ⟨fd, F⟩ := S.c.def_ 61 (d := d_law_shelf) rfl; ⟨fd, F, FunD.bindsN F fun _ _ _ _ _ _ us hl => match us, hl with | [_], _ => rfl⟩
theorem df_law_is_as (S : Says K mg) : Df K "_law_is_as" "_law_is_as" s_law_is_as (He.fAd K ("_law_is_as", none)) ["house", "state"] := let ⟨fd, F⟩ := S.c.def_ 62 (d := d_law_is_as) rfl; ⟨fd, F, FunD.bindsN F fun _ _ _ _ _ _ us hl => match us, hl with | [_, _], _ => rfl⟩
theorem df_law_number (S : Says K mg) : Df K "_law_number" "_law_number" s_law_number (He.fAd K ("_law_number", none)) ["cell", "state"] := let ⟨fd, F⟩ := S.c.def_ 63 (d := d_law_number) rfl; ⟨fd, F, FunD.bindsN F fun _ _ _ _ _ _ us hl => match us, hl with | [_, _], _ => rfl⟩
theorem df_law_parent (S : Says K mg) : Df K "_law_parent" "_law_parent" s_law_parent (He.fAd K ("_law_parent", none)) ["cell", "state"] := let ⟨fd, F⟩ := S.c.def_ 64 (d := d_law_parent) rfl; ⟨fd, F, FunD.bindsN F fun _ _ _ _ _ _ us hl => match us, hl with | [_, _], _ => rfl⟩
theorem df_law_letters (S : Says K mg) : Df K "_law_letters" "_law_letters" s_law_letters (He.fAd K ("_law_letters", none)) ["cell", "many"] := let ⟨fd, F⟩ := S.c.def_ 65 (d := d_law_letters) rfl; ⟨fd, F, FunD.bindsN F fun _ _ _ _ _ _ us hl => match us, hl with | [_, _], _ => rfl⟩
theorem df_law_deed (S : Says K mg) : Df K "_law_deed" "_law_deed" s_law_deed (He.fAd K ("_law_deed", none)) ["cell", "state", "words"] := let ⟨fd, F⟩ := S.c.def_ 66 (d := d_law_deed) rfl; ⟨fd, F, FunD.bindsN F fun _ _ _ _ _ _ us hl => match us, hl with | [_, _, _], _ => rfl⟩
theorem df_law_run (S : Says K mg) : Df K "_law_run" "_law_run" s_law_run (He.fAd K ("_law_run", none)) ["house", "state", "cells", "words"] := let ⟨fd, F⟩ := S.c.def_ 67 (d := d_law_run) rfl; ⟨fd, F, FunD.bindsN F fun _ _ _ _ _ _ us hl => match us, hl with | [_, _, _, _], _ => rfl⟩
theorem df_law_cells (S : Says K mg) : Df K "_law_cells" "_law_cells" s_law_cells (He.fAd K ("_law_cells", none)) ["script", "first", "many"] := let ⟨fd, F⟩ := S.c.def_ 68 (d := d_law_cells) rfl; ⟨fd, F, FunD.bindsN F fun _ _ _ _ _ _ us hl => match us, hl with | [_, _, _], _ => rfl⟩
theorem df_law_path (S : Says K mg) : Df K "_law_path" "_law_path" s_law_path (He.fAd K ("_law_path", none)) ["house", "number"] := let ⟨fd, F⟩ := S.c.def_ 69 (d := d_law_path) rfl; ⟨fd, F, FunD.bindsN F fun _ _ _ _ _ _ us hl => match us, hl with | [_, _], _ => rfl⟩
theorem df_law_names_to (S : Says K mg) : Df K "_law_names_to" "_law_names_to" s_law_names_to (He.fAd K ("_law_names_to", none)) ["state", "number"] := let ⟨fd, F⟩ := S.c.def_ 70 (d := d_law_names_to) rfl; ⟨fd, F, FunD.bindsN F fun _ _ _ _ _ _ us hl => match us, hl with | [_, _], _ => rfl⟩
theorem df_law (S : Says K mg) : Df K "law" "law" s_law (He.fAd K ("law", none)) ["script"] := let ⟨fd, F⟩ := S.c.def_ 71 (d := d_law) rfl; ⟨fd, F, FunD.bindsN F fun _ _ _ _ _ _ us hl => match us, hl with | [_], _ => rfl⟩
end Says
theorem sc_free_name : FnScope ["name", "taken", "number"] ["name", "taken"] (defScope s_free_name) := ⟨rfl, rfl, rfl, by decide +kernel, rfl, by decide +kernel, by decide +kernel⟩
theorem sc_House___init__ : FnScope ["self", "keep", "room"] ["self", "keep", "room"] (defScope s_House___init__) := ⟨rfl, rfl, rfl, by decide +kernel, rfl, by decide +kernel, by decide +kernel⟩
theorem sc_House_is_there : FnScope ["self", "number"] ["self", "number"] (defScope s_House_is_there) := ⟨rfl, rfl, rfl, by decide +kernel, rfl, by decide +kernel, by decide +kernel⟩
theorem sc_House_must : FnScope ["self", "number"] ["self", "number"] (defScope s_House_must) := ⟨rfl, rfl, rfl, by decide +kernel, rfl, by decide +kernel, by decide +kernel⟩
theorem sc_House_must_box : FnScope ["self", "parent"] ["self", "parent"] (defScope s_House_must_box) := ⟨rfl, rfl, rfl, by decide +kernel, rfl, by decide +kernel, by decide +kernel⟩
theorem sc_House_names_in : FnScope ["self", "parent", "but", "some", "one"] ["self", "parent", "but"] (defScope s_House_names_in) := ⟨rfl, rfl, rfl, by decide +kernel, rfl, by decide +kernel, by decide +kernel⟩
theorem sc_House_must_be_free : FnScope ["self", "parent", "name", "but"] ["self", "parent", "name", "but"] (defScope s_House_must_be_free) := ⟨rfl, rfl, rfl, by decide +kernel, rfl, by decide +kernel, by decide +kernel⟩
theorem sc_House_new : FnScope ["self", "parent", "name", "text"] ["self", "parent", "name", "text"] (defScope s_House_new) := ⟨rfl, rfl, rfl, by decide +kernel, rfl, by decide +kernel, by decide +kernel⟩
theorem sc_House_make : FnScope ["self", "parent", "name", "is_box"] ["self", "parent", "name", "is_box"] (defScope s_House_make) := ⟨rfl, rfl, rfl, by decide +kernel, rfl, by decide +kernel, by decide +kernel⟩
theorem sc_House_rename : FnScope ["self", "number", "name", "parent", "old", "text"] ["self", "number", "name"] (defScope s_House_rename) := ⟨rfl, rfl, rfl, by decide +kernel, rfl, by decide +kernel, by decide +kernel⟩
theorem sc_House_whole : FnScope ["self", "number", "found", "many", "mark", "one"] ["self", "number"] (defScope s_House_whole) := ⟨rfl, rfl, rfl, by decide +kernel, rfl, by decide +kernel, by decide +kernel⟩
theorem sc_House_move : FnScope ["self", "number", "parent", "old", "name", "text"] ["self", "number", "parent"] (defScope s_House_move) := ⟨rfl, rfl, rfl, by decide +kernel, rfl, by decide +kernel, by decide +kernel⟩
theorem sc_House_row : FnScope ["self", "number"] ["self", "number"] (defScope s_House_row) := ⟨rfl, rfl, rfl, by decide +kernel, rfl, by decide +kernel, by decide +kernel⟩
theorem sc_House_things : FnScope ["self", "number"] ["self"] (defScope s_House_things) := ⟨rfl, rfl, rfl, by decide +kernel, rfl, by decide +kernel, by decide +kernel⟩
theorem sc_House_path : FnScope ["self", "number", "found", "here"] ["self", "number"] (defScope s_House_path) := ⟨rfl, rfl, rfl, by decide +kernel, rfl, by decide +kernel, by decide +kernel⟩
theorem sc_House_at : FnScope ["self", "path", "here", "name", "some", "row"] ["self", "path"] (defScope s_House_at) := ⟨rfl, rfl, rfl, by decide +kernel, rfl, by decide +kernel, by decide +kernel⟩
theorem sc_House_must_sheet : FnScope ["self", "number"] ["self", "number"] (defScope s_House_must_sheet) := ⟨rfl, rfl, rfl, by decide +kernel, rfl, by decide +kernel, by decide +kernel⟩
theorem sc_House_signs_of : FnScope ["self", "numbers", "number"] ["self", "numbers"] (defScope s_House_signs_of) := ⟨rfl, rfl, rfl, by decide +kernel, rfl, by decide +kernel, by decide +kernel⟩
theorem sc_House_used : FnScope ["self"] ["self"] (defScope s_House_used) := ⟨rfl, rfl, rfl, by decide +kernel, rfl, by decide +kernel, by decide +kernel⟩
theorem sc_House_make_room : FnScope ["self", "more", "number"] ["self", "more"] (defScope s_House_make_room) := ⟨rfl, rfl, rfl, by decide +kernel, rfl, by decide +kernel, by decide +kernel⟩
theorem sc_House_write : FnScope ["self", "number", "text", "parent", "name", "old"] ["self", "number", "text"] (defScope s_House_write) := ⟨rfl, rfl, rfl, by decide +kernel, rfl, by decide +kernel, by decide +kernel⟩
theorem sc_House_text : FnScope ["self", "number"] ["self", "number"] (defScope s_House_text) := ⟨rfl, rfl, rfl, by decide +kernel, rfl, by decide +kernel, by decide +kernel⟩
theorem sc_House_used_pairs : FnScope ["self", "pair"] ["self"] (defScope s_House_used_pairs) := ⟨rfl, rfl, rfl, by decide +kernel, rfl, by decide +kernel, by decide +kernel⟩
theorem sc_House_tie : FnScope ["self", "one", "other"] ["self", "one", "other"] (defScope s_House_tie) := ⟨rfl, rfl, rfl, by decide +kernel, rfl, by decide +kernel, by decide +kernel⟩
theorem sc_House_untie : FnScope ["self", "one", "other"] ["self", "one", "other"] (defScope s_House_untie) := ⟨rfl, rfl, rfl, by decide +kernel, rfl, by decide +kernel, by decide +kernel⟩
theorem sc_House_ties : FnScope ["self", "number", "one", "other"] ["self", "number"] (defScope s_House_ties) := ⟨rfl, rfl, rfl, by decide +kernel, rfl, by decide +kernel, by decide +kernel⟩
theorem sc_House_comers : FnScope ["self", "number", "one", "other"] ["self", "number"] (defScope s_House_comers) := ⟨rfl, rfl, rfl, by decide +kernel, rfl, by decide +kernel, by decide +kernel⟩
theorem sc_House_cast : FnScope ["self", "number", "one"] ["self", "number"] (defScope s_House_cast) := ⟨rfl, rfl, rfl, by decide +kernel, rfl, by decide +kernel, by decide +kernel⟩
theorem sc_House_bundle : FnScope ["self", "number", "one", "day"] ["self", "number"] (defScope s_House_bundle) := ⟨rfl, rfl, rfl, by decide +kernel, rfl, by decide +kernel, by decide +kernel⟩
theorem sc_House_shelf : FnScope ["self", "one", "day"] ["self"] (defScope s_House_shelf) := ⟨rfl, rfl, rfl, by decide +kernel, rfl, by decide +kernel, by decide +kernel⟩
theorem sc_House_inner : FnScope ["self", "number", "one"] ["self", "number"] (defScope s_House_inner) := ⟨rfl, rfl, rfl, by decide +kernel, rfl, by decide +kernel, by decide +kernel⟩
theorem sc_House_take_down : FnScope ["self", "number", "some", "one", "row"] ["self", "number"] (defScope s_House_take_down) := ⟨rfl, rfl, rfl, by decide +kernel, rfl, by decide +kernel, by decide +kernel⟩
theorem sc_House_back : FnScope ["self", "number", "parent", "name", "text"] ["self", "number"] (defScope s_House_back) := ⟨rfl, rfl, rfl, by decide +kernel, rfl, by decide +kernel, by decide +kernel⟩
theorem sc_House_lose : FnScope ["self", "number", "some", "one", "pair"] ["self", "number"] (defScope s_House_lose) := ⟨rfl, rfl, rfl, by decide +kernel, rfl, by decide +kernel, by decide +kernel⟩
theorem sc_House_gone : FnScope ["self", "number"] ["self", "number"] (defScope s_House_gone) := ⟨rfl, rfl, rfl, by decide +kernel, rfl, by decide +kernel, by decide +kernel⟩
theorem sc_House_empty : FnScope ["self", "number", "day"] ["self"] (defScope s_House_empty) := ⟨rfl, rfl, rfl, by decide +kernel, rfl, by decide +kernel, by decide +kernel⟩
theorem sc_House_day : FnScope ["self"] ["self"] (defScope s_House_day) := ⟨rfl, rfl, rfl, by decide +kernel, rfl, by decide +kernel, by decide +kernel⟩
theorem sc_House_next_day : FnScope ["self", "number", "some", "day"] ["self"] (defScope s_House_next_day) := ⟨rfl, rfl, rfl, by decide +kernel, rfl, by decide +kernel, by decide +kernel⟩
theorem sc_House_copy : FnScope ["self", "number", "parent", "some", "one", "names", "name", "old", "its", "text", "more", "other", "k"] ["self", "number", "parent"] (defScope s_House_copy) := ⟨rfl, rfl, rfl, by decide +kernel, rfl, by decide +kernel, by decide +kernel⟩
theorem sc_law_cell : FnScope ["script", "k"] ["script", "k"] (defScope s_law_cell) := ⟨rfl, rfl, rfl, by decide +kernel, rfl, by decide +kernel, by decide +kernel⟩
theorem sc_law_mix : FnScope ["cell", "prime", "many"] ["cell", "prime", "many"] (defScope s_law_mix) := ⟨rfl, rfl, rfl, by decide +kernel, rfl, by decide +kernel, by decide +kernel⟩
theorem sc_law_same : FnScope ["found", "due", "one", "other"] ["found", "due"] (defScope s_law_same) := ⟨rfl, rfl, rfl, by decide +kernel, rfl, by decide +kernel, by decide +kernel⟩
theorem sc_law_word : FnScope ["kept", "kinds", "words"] ["kept"] (defScope s_law_word) := ⟨rfl, rfl, rfl, by decide +kernel, rfl, by decide +kernel, by decide +kernel⟩
theorem sc_law_call : FnScope ["house", "deed", "word", "rest", "one", "other"] ["house", "deed"] (defScope s_law_call) := ⟨rfl, rfl, rfl, by decide +kernel, rfl, by decide +kernel, by decide +kernel⟩
theorem sc_law_told : FnScope ["house", "deed", "kept", "answer", "e"] ["house", "deed"] (defScope s_law_told) := ⟨rfl, rfl, rfl, by decide +kernel, rfl, by decide +kernel, by decide +kernel⟩
theorem sc_law_begin : FnScope ["keep", "room"] ["keep", "room"] (defScope s_law_begin) := ⟨rfl, rfl, rfl, by decide +kernel, rfl, by decide +kernel, by decide +kernel⟩
theorem sc_law_there : FnScope ["state", "number"] ["state", "number"] (defScope s_law_there) := ⟨rfl, rfl, rfl, by decide +kernel, rfl, by decide +kernel, by decide +kernel⟩
theorem sc_law_no_box : FnScope ["state", "parent"] ["state", "parent"] (defScope s_law_no_box) := ⟨rfl, rfl, rfl, by decide +kernel, rfl, by decide +kernel, by decide +kernel⟩
theorem sc_law_names : FnScope ["state", "parent", "but", "found", "one"] ["state", "parent", "but"] (defScope s_law_names) := ⟨rfl, rfl, rfl, by decide +kernel, rfl, by decide +kernel, by decide +kernel⟩
theorem sc_law_free : FnScope ["state", "parent", "name", "taken", "some", "number", "one"] ["state", "parent", "name"] (defScope s_law_free) := ⟨rfl, rfl, rfl, by decide +kernel, rfl, by decide +kernel, by decide +kernel⟩
theorem sc_law_within : FnScope ["state", "number", "found", "one", "here"] ["state", "number"] (defScope s_law_within) := ⟨rfl, rfl, rfl, by decide +kernel, rfl, by decide +kernel, by decide +kernel⟩
theorem sc_law_used : FnScope ["state", "one"] ["state"] (defScope s_law_used) := ⟨rfl, rfl, rfl, by decide +kernel, rfl, by decide +kernel, by decide +kernel⟩
theorem sc_law_lose : FnScope ["state", "number", "one", "gone", "row", "pair"] ["state", "number"] (defScope s_law_lose) := ⟨rfl, rfl, rfl, by decide +kernel, rfl, by decide +kernel, by decide +kernel⟩
theorem sc_law_no_room : FnScope ["state", "more", "there", "one"] ["state", "more"] (defScope s_law_no_room) := ⟨rfl, rfl, rfl, by decide +kernel, rfl, by decide +kernel, by decide +kernel⟩
theorem sc_law_do : FnScope ["state", "deed", "word", "rest", "some", "many", "row", "number"] ["state", "deed"] (defScope s_law_do) := ⟨rfl, rfl, rfl, by decide +kernel, rfl, by decide +kernel, by decide +kernel⟩
theorem sc_law_make : FnScope ["state", "rest", "parent", "name", "is_box"] ["state", "rest"] (defScope s_law_make) := ⟨rfl, rfl, rfl, by decide +kernel, rfl, by decide +kernel, by decide +kernel⟩
theorem sc_law_place : FnScope ["state", "word", "rest", "number", "thing", "parent", "name", "text", "mark"] ["state", "word", "rest"] (defScope s_law_place) := ⟨rfl, rfl, rfl, by decide +kernel, rfl, by decide +kernel, by decide +kernel⟩
theorem sc_law_write : FnScope ["state", "rest", "number", "text", "parent", "name", "old", "mark"] ["state", "rest"] (defScope s_law_write) := ⟨rfl, rfl, rfl, by decide +kernel, rfl, by decide +kernel, by decide +kernel⟩
theorem sc_law_copy : FnScope ["state", "rest", "number", "parent", "some", "one", "names", "name", "row", "pairs", "pair", "k", "other"] ["state", "rest"] (defScope s_law_copy) := ⟨rfl, rfl, rfl, by decide +kernel, rfl, by decide +kernel, by decide +kernel⟩
theorem sc_law_tie : FnScope ["state", "word", "rest"] ["state", "word", "rest"] (defScope s_law_tie) := ⟨rfl, rfl, rfl, by decide +kernel, rfl, by decide +kernel, by decide +kernel⟩
theorem sc_law_shelve : FnScope ["state", "word", "number", "one", "parent", "name", "text", "mark", "row"] ["state", "word", "number"] (defScope s_law_shelve) := ⟨rfl, rfl, rfl, by decide +kernel, rfl, by decide +kernel, by decide +kernel⟩
theorem sc_law_shelf : FnScope ["state", "found", "number", "day", "many", "one"] ["state"] (defScope s_law_shelf) := ⟨rfl, rfl, rfl, by decide +kernel, rfl, by decide +kernel, by decide +kernel⟩
theorem sc_law_is_as : FnScope ["house", "state", "things", "number", "day", "rows", "row", "pairs", "mine", "its", "one", "pair", "other"] ["house", "state"] (defScope s_law_is_as) := ⟨rfl, rfl, rfl, by decide +kernel, rfl, by decide +kernel, by decide +kernel⟩
theorem sc_law_number : FnScope ["cell", "state", "there", "one"] ["cell", "state"] (defScope s_law_number) := ⟨rfl, rfl, rfl, by decide +kernel, rfl, by decide +kernel, by decide +kernel⟩
theorem sc_law_parent : FnScope ["cell", "state", "boxes", "one"] ["cell", "state"] (defScope s_law_parent) := ⟨rfl, rfl, rfl, by decide +kernel, rfl, by decide +kernel, by decide +kernel⟩
theorem sc_law_letters : FnScope ["cell", "many", "letters", "k"] ["cell", "many"] (defScope s_law_letters) := ⟨rfl, rfl, rfl, by decide +kernel, rfl, by decide +kernel, by decide +kernel⟩
theorem sc_law_deed : FnScope ["cell", "state", "words", "word", "number", "name", "pairs", "some", "row"] ["cell", "state", "words"] (defScope s_law_deed) := ⟨rfl, rfl, rfl, by decide +kernel, rfl, by decide +kernel, by decide +kernel⟩
theorem sc_law_run : FnScope ["house", "state", "cells", "words", "cell", "deed"] ["house", "state", "cells", "words"] (defScope s_law_run) := ⟨rfl, rfl, rfl, by decide +kernel, rfl, by decide +kernel, by decide +kernel⟩
theorem sc_law_cells : FnScope ["script", "first", "many", "turn"] ["script", "first", "many"] (defScope s_law_cells) := ⟨rfl, rfl, rfl, by decide +kernel, rfl, by decide +kernel, by decide +kernel⟩
theorem sc_law_path : FnScope ["house", "number", "e"] ["house", "number"] (defScope s_law_path) := ⟨rfl, rfl, rfl, by decide +kernel, rfl, by decide +kernel, by decide +kernel⟩
theorem sc_law_names_to : FnScope ["state", "number", "found"] ["state", "number"] (defScope s_law_names_to) := ⟨rfl, rfl, rfl, by decide +kernel, rfl, by decide +kernel, by decide +kernel⟩
theorem sc_law : FnScope ["script", "k", "house", "state", "paths", "number", "due", "strange", "path", "one"] ["script"] (defScope s_law) := ⟨rfl, rfl, rfl, by decide +kernel, rfl, by decide +kernel, by decide +kernel⟩
end Cs
set_option Elab.async false
set_option linter.all false
set_option maxRecDepth 100000
set_option maxHeartbeats 4000000
namespace Cs
open PySem PySem.Spec PyProof.Rows L2
abbrev hC (K : PySem.W.Frag) : Addr := He.ga K "House"
section
variable {K : PySem.W.Frag} {mg : Str → Option Value} {H : Hp} {p : Addr} {F : Foot} {h : HS} {ds : List (Option D)} {ta : TE}
theorem e_keep (S : Says K mg) (x : HRd (hC K) H p F h) (ho : EvD ta ds H (.obj p)) : EvD (tFld K ta "keep") ds H (.int h.keep) := ev_fld ho x.ob S.cls_House S.na_keep fl_keep rfl
theorem e_room (S : Says K mg) (x : HRd (hC K) H p F h) (ho : EvD ta ds H (.obj p)) : EvD (tFld K ta "room") ds H (.int h.room) := ev_fld ho x.ob S.cls_House S.na_room fl_room rfl
theorem e_rows (S : Says K mg) (x : HRd (hC K) H p F h) (ho : EvD ta ds H (.obj p)) : EvD (tFld K ta "rows") ds H (.obj F.rows) := ev_fld ho x.ob S.cls_House S.na_rows fl_rows rfl
theorem e_shelved (S : Says K mg) (x : HRd (hC K) H p F h) (ho : EvD ta ds H (.obj p)) : EvD (tFld K ta "shelved") ds H (.obj F.shelved) := ev_fld ho x.ob S.cls_House S.na_shelved fl_shelved rfl
theorem e_casts (S : Says K mg) (x : HRd (hC K) H p F h) (ho : EvD ta ds H (.obj p)) : EvD (tFld K ta "casts") ds H (.lst (h.casts.map pairD)) := ev_fld ho x.ob S.cls_House S.na_casts fl_casts x.ca
theorem e_pairs (S : Says K mg) (x : HRd (hC K) H p F h) (ho : EvD ta ds H (.obj p)) : EvD (tFld K ta "pairs") ds H (.lst (h.pairs.map pairD)) := ev_fld ho x.ob S.cls_House S.na_pairs fl_pairs x.pa
theorem e_castsO (S : Says K mg) (x : HRd (hC K) H p F h) (ho : EvD ta ds H (.obj p)) : EvD (tFld K ta "casts") ds H (.obj F.casts) := ev_fld ho x.ob S.cls_House S.na_casts fl_casts rfl
theorem e_pairsO (S : Says K mg) (x : HRd (hC K) H p F h) (ho : EvD ta ds H (.obj p)) : EvD (tFld K ta "pairs") ds H (.obj F.pairs) := ev_fld ho x.ob S.cls_House S.na_pairs fl_pairs rfl
theorem e_today (S : Says K mg) (x : HRd (hC K) H p F h) (ho : EvD ta ds H (.obj p)) : EvD (tFld K ta "today") ds H (.int h.today) := ev_fld ho x.ob S.cls_House S.na_today fl_today rfl
theorem e_count (S : Says K mg) (x : HRd (hC K) H p F h) (ho : EvD ta ds H (.obj p)) : EvD (tFld K ta "count") ds H (.int h.count) := ev_fld ho x.ob S.cls_House S.na_count fl_count rfl
/-- self.rows[n] -/
theorem e_row {tn : TE} {n : Int} {r : Row} (S : Says K mg) (x : HRd (hC K) H p F h) (ho : EvD ta ds H (.obj p)) (hn : EvD tn ds H (.int n)) (hr : get h.rows n = some r) : EvD (tDGet (tFld K ta "rows") tn) ds H r.d :=
  ev_dget (k := Sum.inl n) (e_rows S x ho) hn x.rw (by rw [kds_get, hr]; rfl)
theorem e_par {tn : TE} {n : Int} {r : Row} (S : Says K mg) (x : HRd (hC K) H p F h) (ho : EvD ta ds H (.obj p)) (hn : EvD tn ds H (.int n)) (hr : get h.rows n = some r) : EvD (tOp (rIxT K) (tDGet (tFld K ta "rows") tn) (tC (.int 0))) ds H (oI r.par) := ev_op (e_row S x ho hn hr) ev_int (op_ixT (i := 0) rfl)
theorem e_name {tn : TE} {n : Int} {r : Row} (S : Says K mg) (x : HRd (hC K) H p F h) (ho : EvD ta ds H (.obj p)) (hn : EvD tn ds H (.int n)) (hr : get h.rows n = some r) : EvD (tOp (rIxT K) (tDGet (tFld K ta "rows") tn) (tC (.int 1))) ds H (.str r.name) := ev_op (e_row S x ho hn hr) ev_int (op_ixT (i := 1) rfl)
theorem e_text {tn : TE} {n : Int} {r : Row} (S : Says K mg) (x : HRd (hC K) H p F h) (ho : EvD ta ds H (.obj p)) (hn : EvD tn ds H (.int n)) (hr : get h.rows n = some r) : EvD (tOp (rIxT K) (tDGet (tFld K ta "rows") tn) (tC (.int 2))) ds H (oS r.text) := ev_op (e_row S x ho hn hr) ev_int (op_ixT (i := 2) rfl)
end
/-! ### is_there -/
def sp_House_is_there (K : PySem.W.Frag) : Sp := rsp fun H as d => ∃ p F h n, as = [.obj p, .int n] ∧ HRd (hC K) H p F h ∧ d = .bl (h.there n)
theorem ok_House_is_there {P : Program} {w : World} {K : PySem.W.Frag} {mg : Str → Option Value} {base : Heap} (S : Says K mg) : Fk P w K mg base 1 (He.fAd K ("House", some "is_there")) ["self", "number"] (sp_House_is_there K) := by
  refine mk_r S.df_House_is_there sc_House_is_there ?_ (by decide) fun cdv A outer s H H0 E as d bd hp => ?_
  · rintro H as d ⟨p, F, h, n, rfl, _⟩
    rfl
  · obtain ⟨p, F, h, n, rfl, x, rfl⟩ := hp
    obtain ⟨hr, tk, px, hu, hu65⟩ := bd
    refine ⟨_, (pss_one (ps_ret (pe_and (pe_cmp (pc_din hu (pv 1) (pe_fld (pv 0) rfl)) rfl) (pe_one (pe_cmp (pc_dnotin hu (pv 1) (pe_fld (pv 0) rfl)) rfl))))), ?_⟩
    refine ret_ret (ev_is (ev_andV (ev_din (k := Sum.inl n) (ev_var rfl) (e_rows S x (ev_var rfl)) x.rw) fun _ => ev_dnotin (k := Sum.inl n) (ev_var rfl) (e_shelved S x (ev_var rfl)) x.sh) ?_)
    rw [kds_get, kds_get, Option.isSome_map, Option.isSome_map]
    rfl
theorem pr_isThere {K : PySem.W.Frag} {H : Hp} {p : Addr} {F : Foot} {h : HS} {n : Int} (x : HRd (hC K) H p F h) : Pr (sp_House_is_there K) H [.obj p, .int n] (.bl (h.there n)) := rsp_pr fun H' e => ⟨p, F, h, n, rfl, x.mono e, rfl⟩
/-- self.is_there(n) -/
theorem e_there {K : PySem.W.Frag} {H : Hp} {p : Addr} {F : Foot} {h : HS} {n : Int} {ds : List (Option D)} {ta tn : TE} {E : XK} (x : HRd (hC K) H p F h) (ho : EvD ta ds H (.obj p)) (hn : EvD tn ds H (.int n)) :
    EvD (tMeth (hC K) "is_there" (sp_House_is_there K) [] E ta (tCons tn tNil)) ds H (.bl (h.there n)) := ev_meth ho x.ob rfl (ea_cons hn ea_nil) (pr_isThere x)
/-! ### names_in -/
def sp_House_names_in (K : PySem.W.Frag) : Sp := rsp fun H as d => ∃ p F h par but, as = [.obj p, oI par, oI but] ∧ HAt (hC K) H p F h ∧ h.rows.length < 64 ∧ d = .lst ((h.namesIn par but).map D.str)
theorem ok_House_names_in {P : Program} {w : World} {K : PySem.W.Frag} {mg : Str → Option Value} {base : Heap} (S : Says K mg) : Fk P w K mg base 2 (He.fAd K ("House", some "names_in")) ["self", "parent", "but"] (sp_House_names_in K) := by
  have G_House_is_there := ok_House_is_there (P := P) (w := w) (base := base) S
  refine mk_r S.df_House_names_in sc_House_names_in ?_ (by decide) fun cdv A outer s H H0 E as d bd hp => ?_
  · rintro H as d ⟨p, F, h, par, but, rfl, _⟩
    rfl
  · obtain ⟨p, F, h, par, but, rfl, x, hl, rfl⟩ := hp
    obtain ⟨hr, tk, px, hu, hu65⟩ := bd
    refine ⟨_, (pss_cons (ps_lock (ps_setLc (i := 3) (own := [("one", 4)]) (g := (gName 4)) (tt := (tAnd (tB (tMeth (He.ga K "House") "is_there" (sp_House_is_there K) [] E0 (tVar 0) (tCons (tVar 4) tNil))) (tTest (tOp rNe (tVar 4) (tVar 2))))) (te := (tVar 4)) rfl sc_House_names_in.nd rfl rfl (sw_true rfl rfl rfl (by decide +kernel)) (pi_keys (pe_fld (pv 0) rfl)) (blkOk_by (N := ["self", "parent", "but", "some", "one"]) (sc := defScope s_House_names_in) (by decide +kernel)) (fun _ _ _ _ _ => (pg_name (i := 4) sc_House_names_in.nd rfl (Or.inl rfl))) (fun _ _ _ _ _ => (pts_one (PW.pt (pw_and (pt_val (pe_mt (pv 0) S.cls_House S.meth_is_there G_House_is_there (hr.mono (by decide)) passL (pa_cons (pv 4) pa_nil))) (pw_and1 (pt_cmpR op_ne (pv 4) (pv 2) (nomark _))))))) (fun _ _ _ _ _ => (pv 4))))
      (pss_one (ps_ret (pe_lc (own := [("one", 4)]) (g := (gName 4)) (tt := (tTest (tOp rEq (tOp (rIxT K) (tDGet (tFld K (tVar 0) "rows") (tVar 4)) (tC (.int 0))) (tVar 1)))) (te := (tOp (rIxT K) (tDGet (tFld K (tVar 0) "rows") (tVar 4)) (tC (.int 1)))) rfl sc_House_names_in.nd (pi_list (pv 3)) (blkOk_by (N := ["self", "parent", "but", "some", "one"]) (sc := defScope s_House_names_in) (by decide +kernel)) (fun _ _ _ _ _ => (pg_name (i := 4) sc_House_names_in.nd rfl (Or.inl rfl))) (fun _ _ _ _ _ => (pts_one (pt_cmpR op_eq (pe_ix ix_tup (pe_dget hu (pe_fld (pv 0) rfl) (pv 4) (fun _ _ => rfl)) (pe_int) (fun _ _ => rfl)) (pv 1) (nomark _)))) (fun _ _ _ _ _ => (pe_ix ix_tup (pe_dget hu (pe_fld (pv 0) rfl) (pv 4) (fun _ _ => rfl)) (pe_int) (fun _ _ => rfl))))))), ?_⟩
    obtain ⟨kvs, hk, hi⟩ := id x.rw
    have hks : kvs.map (·.1) = h.keys.map Sum.inl := by rw [hi.keys, kds_keys]; rfl
    have hkl : h.keys.length < 64 := by unfold HS.keys; rw [List.length_map]; exact hl
    refine ret_lockAsg (x := .lst ((h.keys.filter fun n => h.there n && decide (some n ≠ but)).map D.int)) hk (fun od => ?_) ?_
    · have xl := HRd.lock (od := od) hk x.rd
      rw [← filterMap_if]
      refine ev_lcKI upd_same hks _ (e_rows S xl (ev_var rfl)) (by omega) (fun n hn => ?_) (fun n hn y hy => ?_)
      · refine eb_is (eb_and (eb_B (e_there xl (ev_var rfl) (ev_var rfl))) fun _ => eb_test (ev_op (ev_var rfl) (ev_var rfl) (op_neF rfl (oI_flat _) (oI_scal (some n) but)))) ?_
        rw [show (D.int n).val = (oI (some n)).val from rfl, oI_val]
        by_cases c : (h.there n && decide (some n ≠ but)) = true
        · rw [if_pos c]
          simpa using c
        · rw [if_neg c]
          simpa using c
      · split at hy
        · cases hy
          exact ⟨ev_var rfl, rfl⟩
        · cases hy
    · refine ret_ret (ev_is (ev_lcLI (fun n => (get h.rows n).bind fun r => if r.par = par then some (.str r.name) else none) (ev_var rfl) ?_ (fun n hn => ?_) (fun n hn y hy => ?_)) ?_)
      · have := List.length_filter_le (fun n => h.there n && decide (some n ≠ but)) h.keys
        omega
      · have ht : h.there n = true := by
          have := (List.mem_filter.mp hn).2
          simp at this
          exact this.1
        obtain ⟨r, hr⟩ : ∃ r, get h.rows n = some r := by
          unfold HS.there at ht
          cases e : get h.rows n with
          | none => rw [e] at ht; cases ht
          | some r => exact ⟨r, rfl⟩
        refine eb_is (eb_test (ev_op (e_par S x.rd (ev_var rfl) (ev_var rfl) hr) (ev_var rfl) (op_eqF (oI_flat _) (oI_flat _) (oI_scal _ _)))) ?_
        rw [oI_val, hr]
        by_cases c : r.par = par <;> simp [c]
      · cases e : get h.rows n with
        | none => rw [e] at hy; cases hy
        | some r =>
          rw [e] at hy
          by_cases c : r.par = par
          · simp [c] at hy
            subst hy
            exact ⟨e_name S x.rd (ev_var rfl) (ev_var rfl) e, rfl⟩
          · simp [c] at hy
      · unfold HS.namesIn
        rw [List.map_filterMap]
        refine congrArg D.lst (fm_congr fun n _ => ?_)
        cases get h.rows n with
        | none => rfl
        | some r =>
          show (if r.par = par then _ else _) = Option.map D.str (if r.par = par then _ else _)
          by_cases c : r.par = par <;> simp [c]

theorem pr_namesIn {K : PySem.W.Frag} {H : Hp} {p : Addr} {F : Foot} {h : HS} {par but : Option Int} (x : HAt (hC K) H p F h) (hl : h.rows.length < 64) : Pr (sp_House_names_in K) H [.obj p, oI par, oI but] (.lst ((h.namesIn par but).map D.str)) := rsp_pr fun H' e => ⟨p, F, h, par, but, rfl, x.mono e, hl, rfl⟩
theorem str_beq (a b : Str) : (a == b) = decide (a = b) := by
  by_cases e : a = b
  · subst e
    simp
  · rw [decide_eq_false e]
    simpa using e
theorem inV_strs (x : Str) (xs : List Str) : inV (.str x) (xs.map V.str) = decide (x ∈ xs) := by
  induction xs with
  | nil => rfl
  | cons y ys ih =>
    show (eqV (.str y) (.str x) || inV (.str x) (ys.map V.str)) = _
    rw [ih]
    show ((y == x) || _) = _
    rw [str_beq]
    by_cases e : y = x
    · simp [e]
    · have e' : ¬ x = y := fun q => e q.symm
      simp [e, e']
def oMem (o : Option Int) (ns : List Int) : Bool := match o with
  | none => false
  | some n => decide (n ∈ ns)
theorem inV_ints (o : Option Int) (ns : List Int) : inV (oI o).val (ns.map V.int) = oMem o ns := by
  induction ns with
  | nil => cases o <;> rfl
  | cons y ys ih =>
    cases o with
    | none => exact ih
    | some n =>
      show ((y == n) || inV (oI (some n)).val (ys.map V.int)) = _
      rw [ih]
      by_cases e : y = n
      · simp [oMem, e]
      · have e' : ¬ n = y := fun q => e q.symm
        simp [oMem, e, e']
/-! ### must, must_box, must_be_free -/
def HS.mustR (h : HS) (n : Int) : Res := if h.there n = true then .ok .non else .err "NoThing"
def sp_House_must (K : PySem.W.Frag) : Sp := rspX K fun H as r => ∃ p F h n, as = [.obj p, .int n] ∧ HRd (hC K) H p F h ∧ r = h.mustR n
theorem ok_House_must {P : Program} {w : World} {K : PySem.W.Frag} {mg : Str → Option Value} {base : Heap} (S : Says K mg) : Fk P w K mg base 2 (He.fAd K ("House", some "must")) ["self", "number"] (sp_House_must K) := by
  have G_House_is_there := ok_House_is_there (P := P) (w := w) (base := base) S
  refine mk_x S.df_House_must sc_House_must ?_ (by decide) fun cdv A outer s H H0 Q E as r bd hp k1 k2 => ?_
  · rintro H as d ⟨p, F, h, n, rfl, _⟩
    rfl
  · obtain ⟨p, F, h, n, rfl, x, rfl⟩ := hp
    obtain ⟨hr, tk, px, hu, hu65⟩ := bd
    refine ⟨_, (pss_one (ps_if (pt_not (pt_val (pe_mt (pv 0) S.cls_House S.meth_is_there G_House_is_there (hr.mono (by decide)) px (pa_cons (pv 1) pa_nil)))) (pss_one (ps_raise rfl tk (pmk_own PySem.F.excBase_ValueError S.exc_NoThing.1 S.glo_NoThing S.exc_NoThing.2.1 (raises_own S.exc_NoThing.2.2.1 S.exc_NoThing.2.2.2) (by rfl)))) pss_nil)), ?_⟩
    refine go_if (eb_not (eb_B (e_there x (ev_var rfl) (ev_var rfl)))) (fun c => ?_) (fun c => ?_)
    · refine go_raise (x := "NoThing") fun H1 e => k2 _ ?_ H1 e
      simp at c
      simp [HS.mustR, c]
    · refine go_next fun σ H1 e n => k1 .non ?_ _ H1 e rfl
      simp at c
      simp [HS.mustR, c]
theorem e_must {K : PySem.W.Frag} {H : Hp} {p : Addr} {F : Foot} {h : HS} {n : Int} {ds : List (Option D)} {ta tn : TE} {X : XK} (x : HRd (hC K) H p F h) (ho : EvD ta ds H (.obj p)) (hn : EvD tn ds H (.int n)) :
    EvX K X (tMeth (hC K) "must" (sp_House_must K) [] X ta (tCons tn tNil)) ds H (h.mustR n) := ex_meth ho x.ob rfl (ea_cons hn ea_nil) (rspX_pr fun H' e => ⟨p, F, h, n, rfl, x.mono e, rfl⟩)
theorem mustR_ok {h : HS} {n : Int} {d : D} (e : h.mustR n = .ok d) : h.there n = true := by
  unfold HS.mustR at e
  split at e
  · assumption
  · cases e
theorem mustR_err {h : HS} {n : Int} {x : Str} (e : h.mustR n = .err x) : h.there n = false ∧ x = "NoThing" := by
  unfold HS.mustR at e
  split at e
  · cases e
  · rename_i c
    cases e
    exact ⟨by simpa using c, rfl⟩
theorem there_row {h : HS} {n : Int} (e : h.there n = true) : ∃ r, get h.rows n = some r := by
  unfold HS.there at e
  cases q : get h.rows n with
  | none => rw [q] at e; cases e
  | some r => exact ⟨r, rfl⟩
def HS.boxR (h : HS) (par : Option Int) : Res := if h.noBox par = true then .err "NoBox" else .ok .non
def sp_House_must_box (K : PySem.W.Frag) : Sp := rspX K fun H as r => ∃ p F h par, as = [.obj p, oI par] ∧ HRd (hC K) H p F h ∧ r = h.boxR par
theorem notN_oI (o : Option Int) : ∀ (H : Hp) (v : V), Is H (oI o) v → decide (v = V.non) = o.isNone := fun H v hv => by
  cases o <;> cases (show _ = _ from hv) <;> simp
theorem notN_oS (o : Option Str) : ∀ (H : Hp) (v : V), Is H (oS o) v → decide (v = V.non) = o.isNone := fun H v hv => by
  cases o <;> cases (show _ = _ from hv) <;> simp
theorem ok_House_must_box {P : Program} {w : World} {K : PySem.W.Frag} {mg : Str → Option Value} {base : Heap} (S : Says K mg) : Fk P w K mg base 2 (He.fAd K ("House", some "must_box")) ["self", "parent"] (sp_House_must_box K) := by
  have G_House_is_there := ok_House_is_there (P := P) (w := w) (base := base) S
  refine mk_x S.df_House_must_box sc_House_must_box ?_ (by decide) fun cdv A outer s H H0 Q E as r bd hp k1 k2 => ?_
  · rintro H as d ⟨p, F, h, n, rfl, _⟩
    rfl
  · obtain ⟨p, F, h, par, rfl, x, rfl⟩ := hp
    obtain ⟨hr, tk, px, hu, hu65⟩ := bd
    refine ⟨_, (pss_one (ps_if (PW.pt (pw_and (pt_cmp (pc_notN (pv 1))) (pw_and1 (PW.pt (pw_or (pt_not (pt_val (pe_mt (pv 0) S.cls_House S.meth_is_there G_House_is_there (hr.mono (by decide)) px (pa_cons (pv 1) pa_nil)))) (pw_or1 (pt_cmp (pc_notN (pe_ix ix_tup (pe_dget hu (pe_fld (pv 0) rfl) (pv 1) (fun _ _ => rfl)) (pe_int) (fun _ _ => rfl)))))))))) (pss_one (ps_raise rfl tk (pmk_own PySem.F.excBase_ValueError S.exc_NoBox.1 S.glo_NoBox S.exc_NoBox.2.1 (raises_own S.exc_NoBox.2.2.1 S.exc_NoBox.2.2.2) (by rfl)))) pss_nil)), ?_⟩
    refine go_if (b := h.noBox par) ?_ (fun c => ?_) (fun c => ?_)
    · cases par with
      | none => exact eb_is (eb_and (c := true) (eb_B (ev_notN (ev_var rfl) (notN_oI none))) fun q => by simp at q) (by rfl)
      | some n =>
        refine eb_is (eb_and (eb_B (ev_notN (ev_var rfl) (notN_oI (some n)))) fun q => eb_or (c := isSheet (get h.rows n)) (eb_not (eb_B (e_there x (ev_var rfl) (ev_var rfl)))) fun q => ?_) (by simp [HS.noBox])
        obtain ⟨r, hr⟩ := there_row (h := h) (n := n) (by simpa using q)
        refine eb_is (eb_B (ev_notN (e_text S x (ev_var rfl) (ev_var rfl) hr) (notN_oS r.text))) ?_
        rw [hr]
        show (!r.text.isNone) = r.text.isSome
        cases r.text <;> rfl
    · exact go_raise (x := "NoBox") fun H1 e => k2 _ (by simp [HS.boxR, c]) H1 e
    · exact go_next fun σ H1 e n => k1 .non (by simp [HS.boxR, c]) _ H1 e rfl
theorem e_box {K : PySem.W.Frag} {H : Hp} {p : Addr} {F : Foot} {h : HS} {par : Option Int} {ds : List (Option D)} {ta tn : TE} {X : XK} (x : HRd (hC K) H p F h) (ho : EvD ta ds H (.obj p)) (hn : EvD tn ds H (oI par)) :
    EvX K X (tMeth (hC K) "must_box" (sp_House_must_box K) [] X ta (tCons tn tNil)) ds H (h.boxR par) := ex_meth ho x.ob rfl (ea_cons hn ea_nil) (rspX_pr fun H' e => ⟨p, F, h, par, rfl, x.mono e, rfl⟩)
def HS.freeR (h : HS) (par : Option Int) (nm : Str) (but : Option Int) : Res := if nm ∈ h.namesIn par but then .err "Taken" else .ok .non
def sp_House_must_be_free (K : PySem.W.Frag) : Sp := rspX K fun H as r => ∃ p F h par nm but, as = [.obj p, oI par, .str nm, oI but] ∧ HAt (hC K) H p F h ∧ h.rows.length < 64 ∧ r = h.freeR par nm but
theorem ok_House_must_be_free {P : Program} {w : World} {K : PySem.W.Frag} {mg : Str → Option Value} {base : Heap} (S : Says K mg) : Fk P w K mg base 3 (He.fAd K ("House", some "must_be_free")) ["self", "parent", "name", "but"] (sp_House_must_be_free K) := by
  have G_House_names_in := ok_House_names_in (P := P) (w := w) (base := base) S
  refine mk_x S.df_House_must_be_free sc_House_must_be_free ?_ (by decide) fun cdv A outer s H H0 Q E as r bd hp k1 k2 => ?_
  · rintro H as d ⟨p, F, h, par, nm, but, rfl, _⟩
    rfl
  · obtain ⟨p, F, h, par, nm, but, rfl, x, hl, rfl⟩ := hp
    obtain ⟨hr, tk, px, hu, hu65⟩ := bd
    refine ⟨_, (pss_one (ps_if (pt_cmpR op_in_seq (pv 2) (pe_mt (pv 0) S.cls_House S.meth_names_in G_House_names_in (hr.mono (by decide)) px (pa_cons (pv 1) (pa_cons (pv 3) pa_nil))) rfl) (pss_one (ps_raise rfl tk (pmk_own PySem.F.excBase_ValueError S.exc_Taken.1 S.glo_Taken S.exc_Taken.2.1 (raises_own S.exc_Taken.2.2.1 S.exc_Taken.2.2.2) (by rfl)))) pss_nil)), ?_⟩
    refine go_if (b := decide (nm ∈ h.namesIn par but)) ?_ (fun c => ?_) (fun c => ?_)
    · refine eb_is (eb_test (ev_op (ev_var rfl) (ev_meth (ev_var rfl) x.ob rfl (ea_cons (ev_var rfl) (ea_cons (ev_var rfl) ea_nil)) (pr_namesIn x hl)) (op_inL rfl (strs_flat _)))) ?_
      rw [strs_val]
      exact inV_strs nm _
    · exact go_raise (x := "Taken") fun H1 e => k2 _ (by simp at c; simp [HS.freeR, c]) H1 e
    · exact go_next fun σ H1 e n => k1 .non (by simp at c; simp [HS.freeR, c]) _ H1 e rfl
theorem e_free {K : PySem.W.Frag} {H : Hp} {p : Addr} {F : Foot} {h : HS} {par but : Option Int} {nm : Str} {ds : List (Option D)} {ta t1 t2 t3 : TE} {X : XK} (x : HAt (hC K) H p F h) (hl : h.rows.length < 64) (ho : EvD ta ds H (.obj p)) (h1 : EvD t1 ds H (oI par)) (h2 : EvD t2 ds H (.str nm)) (h3 : EvD t3 ds H (oI but)) :
    EvX K X (tMeth (hC K) "must_be_free" (sp_House_must_be_free K) [] X ta (tCons t1 (tCons t2 (tCons t3 tNil)))) ds H (h.freeR par nm but) := ex_meth ho x.ob rfl (ea_cons h1 (ea_cons h2 (ea_cons h3 ea_nil))) (rspX_pr fun H' e => ⟨p, F, h, par, nm, but, rfl, x.mono e, hl, rfl⟩)
/-! ### new, make, rename -/
def HS.new (h : HS) (par : Option Int) (nm : Str) (tx : Option Str) : HS := { h with count := h.count + 1, rows := put h.rows (h.count + 1) ⟨par, nm, tx⟩ }
def sp_House_new (K : PySem.W.Frag) : Sp := wsp K fun h as o => ∃ par nm tx, as = [oI par, .str nm, oS tx] ∧ h.rows.length < 64 ∧ o = .ok (.int (h.count + 1)) (h.new par nm tx)
theorem pureE_row {par : Option Int} {nm : Str} {tx : Option Str} : (oI par).pure = true ∧ (oS tx).pure = true := ⟨flat_pure (oI_flat _), flat_pure (oS_flat _)⟩
theorem ok_House_new {P : Program} {w : World} {K : PySem.W.Frag} {mg : Str → Option Value} {base : Heap} (S : Says K mg) : Fk P w K mg base 1 (He.fAd K ("House", some "new")) ["self", "parent", "name", "text"] (sp_House_new K) := by
  refine mk_w S.df_House_new sc_House_new ?_ (by decide) fun cdv A outer s H H0 Q E p F h as o bd pa x hp k1 k2 => ?_
  · rintro h as o ⟨par, nm, tx, rfl, _⟩
    rfl
  · obtain ⟨par, nm, tx, rfl, hl, rfl⟩ := hp
    obtain ⟨hr, tk, px, hu, hu65⟩ := bd
    refine ⟨_, (pss_cons (ps_fld (pv 0) (pe_op op_add (pe_fld (pv 0) rfl) (pe_int)) rfl)
      (pss_cons (ps_dput hu (pe_fld (pv 0) rfl) (pe_fld (pv 0) rfl) (pe_tup (pa_cons (pv 1) (pa_cons (pv 2) (pa_cons (pv 3) pa_nil)))) rfl)
      (pss_one (ps_ret (pe_fld (pv 0) rfl))))), ?_⟩
    have pe : pureE [some (.obj p), some (oI par), some (.str nm), some (oS tx)] = true := by cases par <;> cases tx <;> rfl
    refine go_fld (h' := { h with count := h.count + 1 }) S.cls_House S.na_count x (ev_op (e_count S x.rd (ev_var rfl)) ev_int (op_I0 fun _ => rfl)) (ev_var rfl) pe rfl rfl rfl rfl rfl fun H2 x2 r2 => ?_
    refine go_rowput (n := h.count + 1) (r := ⟨par, nm, tx⟩) x2 (by show h.rows.length < _; omega) (ev_tup (ea_cons (ev_var rfl) (ea_cons (ev_var rfl) (ea_cons (ev_var rfl) ea_nil))) (by simp)) (e_rows S x2.rd (ev_var rfl)) (e_count S x2.rd (ev_var rfl)) pe fun H3 x3 r3 => ?_
    exact go_ret (e_count S x3.rd (ev_var rfl)) fun v H4 e4 hv => k1 _ _ rfl v H4 F (x3.mono e4) ((r2.trans Fresh.refl r3).trans_ex e4) Fresh.refl hv
def HS.makeO (h : HS) (par : Option Int) (nm : Str) (b : Bool) : Out :=
  if h.noBox par = true then .err "NoBox" else if nm ∈ h.namesIn par none then .err "Taken" else .ok (.int (h.count + 1)) (h.new par nm (if b then none else some ""))
def sp_House_make (K : PySem.W.Frag) : Sp := wsp K fun h as o => ∃ par nm b, as = [oI par, .str nm, .bl b] ∧ h.rows.length < 64 ∧ o = h.makeO par nm b
theorem ok_House_make {P : Program} {w : World} {K : PySem.W.Frag} {mg : Str → Option Value} {base : Heap} (S : Says K mg) : Fk P w K mg base 4 (He.fAd K ("House", some "make")) ["self", "parent", "name", "is_box"] (sp_House_make K) := by
  have G_House_new := ok_House_new (P := P) (w := w) (base := base) S
  have G_House_must_be_free := ok_House_must_be_free (P := P) (w := w) (base := base) S
  have G_House_must_box := ok_House_must_box (P := P) (w := w) (base := base) S
  refine mk_w S.df_House_make sc_House_make ?_ (by decide) fun cdv A outer s H H0 Q E p F h as o bd pa x hp k1 k2 => ?_
  · rintro h as o ⟨par, nm, tx, rfl, _⟩
    rfl
  · obtain ⟨par, nm, b, rfl, hl, rfl⟩ := hp
    obtain ⟨hr, tk, px, hu, hu65⟩ := bd
    refine ⟨_, (pss_cons (ps_expr (pe_mt (pv 0) S.cls_House S.meth_must_box G_House_must_box (hr.mono (by decide)) px (pa_cons (pv 1) pa_nil)))
      (pss_cons (ps_expr (pe_mt (pv 0) S.cls_House S.meth_must_be_free G_House_must_be_free (hr.mono (by decide)) px (pa_cons (pv 1) (pa_cons (pv 2) (pa_cons (pe_non) pa_nil)))))
      (pss_cons (ps_if (pt_val (pv 3)) (pss_one (ps_ret (pe_mt (pv 0) S.cls_House S.meth_new G_House_new (hr.mono (by decide)) px (pa_cons (pv 1) (pa_cons (pv 2) (pa_cons (pe_non) pa_nil)))))) pss_nil)
      (pss_one (ps_ret (pe_mt (pv 0) S.cls_House S.meth_new G_House_new (hr.mono (by decide)) px (pa_cons (pv 1) (pa_cons (pv 2) (pa_cons (pe_str) pa_nil))))))))), ?_⟩
    refine go_doX (e_box x.rd (ev_var rfl) (ev_var rfl)) (fun d hd => ?_) (fun y hy H2 e2 => ?_)
    · have nb : ¬ h.noBox par = true := fun c => by simp [HS.boxR, c] at hd
      refine go_doX (e_free (but := none) x hl (ev_var rfl) (ev_var rfl) (ev_var rfl) ev_non) (fun d hd => ?_) (fun y hy H2 e2 => ?_)
      · have nf : ¬ nm ∈ h.namesIn par none := fun c => by simp [HS.freeR, c] at hd
        have ho : h.makeO par nm b = .ok (.int (h.count + 1)) (h.new par nm (if b then none else some "")) := by simp [HS.makeO, nb, nf]
        rw [ho] at k1 k2
        refine go_when (b := b) (eb_B (ev_var rfl)) (fun c => ?_) (fun c => ?_)
        · subst c
          refine go_retW x rfl (ev_var rfl) (ea_cons (ev_var rfl) (ea_cons (ev_var rfl) (ea_cons ev_non ea_nil))) (by cases par <;> rfl) ⟨par, nm, none, rfl, hl, rfl⟩ (fun d h' hd v H2 F' y r f hv => k1 d h' hd v H2 F' y r f hv) (fun x hx => by cases hx)
        · subst c
          refine go_retW x rfl (ev_var rfl) (ea_cons (ev_var rfl) (ea_cons (ev_var rfl) (ea_cons ev_str ea_nil))) (by cases par <;> rfl) ⟨par, nm, some "", rfl, hl, rfl⟩ (fun d h' hd v H2 F' y r f hv => k1 d h' hd v H2 F' y r f hv) (fun x hx => by cases hx)
      · unfold HS.freeR at hy
        split at hy
        · rename_i c
          cases hy
          exact k2 _ (by simp [HS.makeO, nb, c]) H2 e2
        · cases hy
    · unfold HS.boxR at hy
      split at hy
      · rename_i c
        cases hy
        exact k2 _ (by simp [HS.makeO, c]) H2 e2
      · cases hy
def HS.renameO (h : HS) (n : Int) (nm : Str) : Out :=
  if h.there n = true then match get h.rows n with
    | some r => if nm ∈ h.namesIn r.par (some n) then .err "Taken" else .ok .non { h with rows := put h.rows n { r with name := nm } }
    | none => .err "NoThing"
  else .err "NoThing"
def sp_House_rename (K : PySem.W.Frag) : Sp := wsp K fun h as o => ∃ n nm, as = [.int n, .str nm] ∧ h.rows.length < 64 ∧ o = h.renameO n nm
theorem put_end {ds : List (Option D)} {H : Hp} {E : Ends} {ts : TS} (h : Go (tSeq ts tNext) ds H E) : Go ts ds H E := h
theorem ok_House_rename {P : Program} {w : World} {K : PySem.W.Frag} {mg : Str → Option Value} {base : Heap} (S : Says K mg) : Fk P w K mg base 4 (He.fAd K ("House", some "rename")) ["self", "number", "name"] (sp_House_rename K) := by
  have G_House_must_be_free := ok_House_must_be_free (P := P) (w := w) (base := base) S
  have G_House_must := ok_House_must (P := P) (w := w) (base := base) S
  refine mk_w S.df_House_rename sc_House_rename ?_ (by decide) fun cdv A outer s H H0 Q E p F h as o bd pa x hp k1 k2 => ?_
  · rintro h as o ⟨n, nm, rfl, _⟩
    rfl
  · obtain ⟨n, nm, rfl, hl, rfl⟩ := hp
    obtain ⟨hr, tk, px, hu, hu65⟩ := bd
    refine ⟨_, (pss_cons (ps_expr (pe_mt (pv 0) S.cls_House S.meth_must G_House_must (hr.mono (by decide)) px (pa_cons (pv 1) pa_nil)))
      (pss_cons (ps_asg (pe_dget hu (pe_fld (pv 0) rfl) (pv 1) (fun _ _ => rfl)) (pg_tup rfl (pgs_cons (pg_name (i := 3) sc_House_rename.nd rfl (Or.inl rfl)) (pgs_cons (pg_name (i := 4) sc_House_rename.nd rfl (Or.inl rfl)) (pgs_cons (pg_name (i := 5) sc_House_rename.nd rfl (Or.inl rfl)) pgs_nil)))))
      (pss_cons (ps_expr (pe_mt (pv 0) S.cls_House S.meth_must_be_free G_House_must_be_free (hr.mono (by decide)) px (pa_cons (pv 3) (pa_cons (pv 2) (pa_cons (pv 1) pa_nil)))))
      (pss_one (ps_dput hu (pe_fld (pv 0) rfl) (pv 1) (pe_tup (pa_cons (pv 3) (pa_cons (pv 2) (pa_cons (pv 5) pa_nil)))) rfl))))), ?_⟩
    refine go_doX (e_must x.rd (ev_var rfl) (ev_var rfl)) (fun d hd => ?_) (fun y hy H2 e2 => ?_)
    · have ht := mustR_ok hd
      obtain ⟨r, hr⟩ := there_row ht
      refine go_un3 (e_row S x.rd (ev_var rfl) (ev_var rfl) hr) ?_
      refine go_doX (e_free (but := some n) x hl (ev_var rfl) (ev_var rfl) (ev_var rfl) (ev_var rfl)) (fun d hd => ?_) (fun y hy H2 e2 => ?_)
      · have nf : ¬ nm ∈ h.namesIn r.par (some n) := fun c => by simp [HS.freeR, c] at hd
        have ho : h.renameO n nm = .ok .non { h with rows := put h.rows n { r with name := nm } } := by simp [HS.renameO, ht, hr, nf]
        refine put_end (go_rowput (n := n) (r := { r with name := nm }) x (by omega) (ev_tup (ea_cons (ev_var rfl) (ea_cons (ev_var rfl) (ea_cons (ev_var rfl) ea_nil))) (by simp)) (e_rows S x.rd (ev_var rfl)) (ev_var rfl) (by cases r.par <;> cases r.text <;> rfl) fun H3 x3 r3 => go_next fun σ H4 e4 n4 => ?_)
        exact k1 _ _ ho _ H4 F (x3.mono e4) (r3.trans_ex e4) Fresh.refl rfl
      · unfold HS.freeR at hy
        split at hy
        · rename_i c
          cases hy
          exact k2 _ (by simp [HS.renameO, ht, hr, c]) H2 e2
        · cases hy
    · obtain ⟨c, rfl⟩ := mustR_err hy
      exact k2 _ (by simp [HS.renameO, c]) H2 e2
end Cs
set_option Elab.async false
set_option linter.all false
set_option maxRecDepth 100000
set_option maxHeartbeats 4000000
namespace Cs
open PySem PySem.Spec PyProof.Rows L2
/-! ### further operations on data -/
section
variable {K : PySem.W.Frag} {ds : List (Option D)} {H H' : Hp} {a b d : D}
theorem op_catTD {xs ys : List D} (hx : xs ≠ []) (hy : ys ≠ []) (hl : xs.length + ys.length ≤ 1000000) : Op (rCatT K) H (.tup xs) (.tup ys) (.tup (xs ++ ys)) := fun H1 e v u hv hu Q k => by
  obtain ⟨p, vs, rfl, hp, h1⟩ := hv
  obtain ⟨q, us, rfl, hq, h2⟩ := hu
  have l1 := h1.len
  have l2 := h2.len
  refine ⟨p, q, vs, us, rfl, rfl, SqT.of hp, SqT.of hq, ?_, ?_, ?_, ?_⟩
  · intro z
    subst z
    cases xs with
    | nil => exact hx rfl
    | cons _ _ => cases l1
  · exact Nat.le_trans (by rw [l1, l2]; exact hl) (by decide)
  · intro z
    subst z
    cases ys with
    | nil => exact absurd rfl hy
    | cons _ _ => cases l2
  · intro _ r hr
    exact k _ _ (Ex.new hr) ⟨r, _, rfl, upd_same, (h1.app h2).mono (Ex.new hr)⟩
end
/-! ### __init__ -/
def HS.empty (keep room : Int) : HS := ⟨keep, room, [], [], [], [], 0, 0⟩
def sp_House___init__ (K : PySem.W.Frag) : Sp := fun vs H Q _ => ∃ p dx keep room, vs = [.ref p, .int keep, .int room] ∧ H p = some (.ins (hC K) dx []) ∧
  ∀ H' F, HAt (hC K) H' p F (HS.empty keep room) → (∀ b o, H b = some o → b ≠ p → H' b = some o) → (∀ b ∈ fp p F, b = p ∨ H b = none) → Q .non H'
theorem ok_House___init__ {P : Program} {w : World} {K : PySem.W.Frag} {mg : Str → Option Value} {base : Heap} (S : Says K mg) : Fk P w K mg base 1 (He.fAd K ("House", some "__init__")) ["self", "keep", "room"] (sp_House___init__ K) := by
  refine mk_fk S.df_House___init__ sc_House___init__ (fun vs H Q E h => ?_) fun cdv A outer s H vs Q E hr h => ?_
  · obtain ⟨p, dx, keep, room, rfl, _⟩ := h
    rfl
  · obtain ⟨p, dx, keep, room, rfl, hp, k⟩ := h
    refine ⟨_, (pss_cons (ps_fld (pv 0) (pv 1) rfl)
      (pss_cons (ps_fld (pv 0) (pv 2) rfl)
      (pss_cons (ps_fld (pv 0) (pe_dnewK) rfl)
      (pss_cons (ps_fld (pv 0) (pe_dnewK) rfl)
      (pss_cons (ps_fld (pv 0) (pe_lst pa_nil) rfl)
      (pss_cons (ps_fld (pv 0) (pe_lst pa_nil) rfl)
      (pss_cons (ps_fld (pv 0) (pe_int) rfl)
      (pss_one (ps_fld (pv 0) (pe_int) rfl))))))))), ?_⟩
    refine ⟨_, rfl, _, rfl, p, hC K, dx, _, rfl, hp, S.cls_House, S.na_keep, by show 0 < 1000; decide, ?_⟩
    refine ⟨_, rfl, _, rfl, p, hC K, dx, _, rfl, upd_same, S.cls_House, S.na_room, by show 1 < 1000; decide, ?_⟩
    rw [upd_upd]
    intro d1 h1
    have n1 : p ≠ d1 := ne_of_none (H := upd H p _) upd_same h1
    refine ⟨_, rfl, p, hC K, dx, _, rfl, (by rw [upd_ne n1]; exact upd_same), S.cls_House, S.na_rows, by show 2 < 1000; decide, ?_⟩
    intro d2 h2
    have n2 : p ≠ d2 := ne_of_none (H := upd _ p _) upd_same h2
    have n12 : d1 ≠ d2 := ne_of_none (o := .dK []) (by rw [upd_ne n1.symm]; exact upd_same) h2
    refine ⟨_, rfl, p, hC K, dx, _, rfl, (by rw [upd_ne n2]; exact upd_same), S.cls_House, S.na_shelved, by show 3 < 1000; decide, ?_⟩
    refine ⟨by show 0 ≤ sizeLine; decide, fun d3 h3 => ?_⟩
    have n3 : p ≠ d3 := ne_of_none (H := upd _ p _) upd_same h3
    have n23 : d2 ≠ d3 := ne_of_none (o := .dK []) (by rw [upd_ne n2.symm]; exact upd_same) h3
    have n13 : d1 ≠ d3 := ne_of_none (o := .dK []) (by rw [upd_ne n1.symm, upd_ne n12, upd_ne n1.symm]; exact upd_same) h3
    refine ⟨_, rfl, p, hC K, dx, _, rfl, (by rw [upd_ne n3]; exact upd_same), S.cls_House, S.na_casts, by show 4 < 1000; decide, ?_⟩
    refine ⟨by show 0 ≤ sizeLine; decide, fun d4 h4 => ?_⟩
    have n4 : p ≠ d4 := ne_of_none (H := upd _ p _) upd_same h4
    have n34 : d3 ≠ d4 := ne_of_none (o := .lst []) (by rw [upd_ne n3.symm]; exact upd_same) h4
    have n24 : d2 ≠ d4 := ne_of_none (o := .dK []) (by rw [upd_ne n2.symm, upd_ne n23, upd_ne n2.symm]; exact upd_same) h4
    have n14 : d1 ≠ d4 := ne_of_none (o := .dK []) (by rw [upd_ne n1.symm, upd_ne n13, upd_ne n1.symm, upd_ne n12, upd_ne n1.symm]; exact upd_same) h4
    refine ⟨_, rfl, p, hC K, dx, _, rfl, (by rw [upd_ne n4]; exact upd_same), S.cls_House, S.na_pairs, by show 5 < 1000; decide, ?_⟩
    refine ⟨_, rfl, p, hC K, dx, _, rfl, upd_same, S.cls_House, S.na_today, by show 6 < 1000; decide, ?_⟩
    refine ⟨_, rfl, p, hC K, dx, _, rfl, upd_same, S.cls_House, S.na_count, by show 7 < 1000; decide, ?_⟩
    have g1 : H d1 = none := by
      have := h1
      rw [upd_ne n1.symm] at this
      exact this
    have g2 : H d2 = none := by
      have := h2
      rw [upd_ne n2.symm, upd_ne n12.symm, upd_ne n2.symm] at this
      exact this
    have g3 : H d3 = none := by
      have := h3
      rw [upd_ne n3.symm, upd_ne n23.symm, upd_ne n3.symm, upd_ne n13.symm, upd_ne n3.symm] at this
      exact this
    have g4 : H d4 = none := by
      have := h4
      rw [upd_ne n4.symm, upd_ne n34.symm, upd_ne n4.symm, upd_ne n24.symm, upd_ne n4.symm, upd_ne n14.symm, upd_ne n4.symm] at this
      exact this
    refine k _ ⟨dx, d1, d2, d3, d4⟩ ⟨upd_same, ⟨[], ?_, rfl⟩, ⟨[], ?_, rfl⟩, ⟨d3, [], rfl, ?_, rfl⟩, ⟨d4, [], rfl, ?_, rfl⟩, n12, n34⟩ (fun b o e hb => ?_) (fun b hb => ?_)
    · simp only [upd_ne n1.symm, upd_ne n12, upd_ne n13, upd_ne n14, upd_same]
    · simp only [upd_ne n2.symm, upd_ne n23, upd_ne n24, upd_same]
    · simp only [upd_ne n3.symm, upd_ne n34, upd_same]
    · simp only [upd_ne n4.symm, upd_same]
    · simp only [upd_ne hb, upd_ne (ne_of_none e g1), upd_ne (ne_of_none e g2), upd_ne (ne_of_none e g3), upd_ne (ne_of_none e g4)]
      exact e
    · simp only [fp, List.mem_cons, List.not_mem_nil, or_false] at hb
      rcases hb with rfl | rfl | rfl | rfl | rfl
      · exact .inl rfl
      · exact .inr g1
      · exact .inr g2
      · exact .inr g3
      · exact .inr g4
/-! ### row, things -/
def rowD (n : Int) (r : Row) : D := .tup [.int n, oI r.par, .str r.name, oS r.text]
theorem rowD_pure (n : Int) (r : Row) : (rowD n r).pure = true := by
  obtain ⟨p, m, t⟩ := r
  cases p <;> cases t <;> rfl
def sp_House_row (K : PySem.W.Frag) : Sp := rsp fun H as d => ∃ p F h n r, as = [.obj p, .int n] ∧ HRd (hC K) H p F h ∧ get h.rows n = some r ∧ d = rowD n r
theorem ok_House_row {P : Program} {w : World} {K : PySem.W.Frag} {mg : Str → Option Value} {base : Heap} (S : Says K mg) : Fk P w K mg base 1 (He.fAd K ("House", some "row")) ["self", "number"] (sp_House_row K) := by
  refine mk_r S.df_House_row sc_House_row ?_ (by decide) fun cdv A outer s H H0 E as d bd hp => ?_
  · rintro H as d ⟨p, F, h, n, r, rfl, _⟩
    rfl
  · obtain ⟨p, F, h, n, r, rfl, x, hr', rfl⟩ := hp
    obtain ⟨hr, tk, px, hu, hu65⟩ := bd
    refine ⟨_, (pss_one (ps_ret (pe_op op_catT (pe_tup (pa_cons (pv 1) pa_nil)) (pe_dget hu (pe_fld (pv 0) rfl) (pv 1) (fun _ _ => rfl))))), ?_⟩
    exact ret_ret (ev_op (ev_tup (ea_cons (ev_var rfl) ea_nil) (by simp)) (e_row S x (ev_var rfl) (ev_var rfl) hr') (op_catTD (by simp) (by simp) (by simp)))
theorem pr_row {K : PySem.W.Frag} {H : Hp} {p : Addr} {F : Foot} {h : HS} {n : Int} {r : Row} (x : HRd (hC K) H p F h) (hr : get h.rows n = some r) : Pr (sp_House_row K) H [.obj p, .int n] (rowD n r) := rsp_pr fun H' e => ⟨p, F, h, n, r, rfl, x.mono e, hr, rfl⟩
def HS.things (h : HS) : List D := (sortI h.keys).filterMap fun n => if h.there n = true then (get h.rows n).map (rowD n) else none
def sp_House_things (K : PySem.W.Frag) : Sp := rsp fun H as d => ∃ p F h, as = [.obj p] ∧ HRd (hC K) H p F h ∧ h.rows.length < 64 ∧ d = .tup h.things
theorem e_sortedRows {K : PySem.W.Frag} {mg : Str → Option Value} {H : Hp} {p : Addr} {F : Foot} {h : HS} {ds : List (Option D)} {ta : TE} (S : Says K mg) (x : HRd (hC K) H p F h) (hl : h.rows.length < 64) (ho : EvD ta ds H (.obj p)) : EvD (tCB rSortDI (tCons (tFld K ta "rows") tNil)) ds H (.lst ((sortI h.keys).map D.int)) :=
  ev_cb (ea_cons (e_rows S x ho) ea_nil) (cl_sortedDI x.rw kds_keys (by show (h.rows.map (·.1)).length < 64; rw [List.length_map]; exact hl))
theorem sortI_len (ns : List Int) : (sortI ns).length = ns.length := (sortI_perm ns).length_eq
theorem mem_sortI {ns : List Int} {n : Int} : n ∈ sortI ns ↔ n ∈ ns := (sortI_perm ns).mem_iff
theorem get_mem {α : Type} {l : List (Int × α)} {n : Int} : (get l n).isSome = true ↔ n ∈ l.map (·.1) := by
  induction l with
  | nil => simp [get_nil]
  | cons p r ih =>
    by_cases e : p.1 = n
    · rw [get_pos e]
      simp [e]
    · rw [get_neg e, ih]
      have e' : ¬ n = p.1 := fun q => e q.symm
      simp [e']
theorem ok_House_things {P : Program} {w : World} {K : PySem.W.Frag} {mg : Str → Option Value} {base : Heap} (S : Says K mg) : Fk P w K mg base 2 (He.fAd K ("House", some "things")) ["self"] (sp_House_things K) := by
  have G_House_is_there := ok_House_is_there (P := P) (w := w) (base := base) S
  have G_House_row := ok_House_row (P := P) (w := w) (base := base) S
  refine mk_r S.df_House_things sc_House_things ?_ (by decide) fun cdv A outer s H H0 E as d bd hp => ?_
  · rintro H as d ⟨p, F, h, rfl, _⟩
    rfl
  · obtain ⟨p, F, h, rfl, x, hl, rfl⟩ := hp
    obtain ⟨hr, tk, px, hu, hu65⟩ := bd
    refine ⟨_, (pss_one (ps_ret (pe_callTy call_tuple_of (by rfl) S.free_tuple (by decide +kernel) (pa_cons (pe_lc (own := [("number", 1)]) (g := (gName 1)) (tt := (tB (tMeth (He.ga K "House") "is_there" (sp_House_is_there K) [] E0 (tVar 0) (tCons (tVar 1) tNil)))) (te := (tMeth (He.ga K "House") "row" (sp_House_row K) [] E0 (tVar 0) (tCons (tVar 1) tNil))) rfl sc_House_things.nd (pi_list (pe_callB (call_sortedDI rfl) (by rfl) S.free_sorted (by decide +kernel) (pa_cons (pe_fld (pv 0) rfl) pa_nil))) (blkOk_by (N := ["self", "number"]) (sc := defScope s_House_things) (by decide +kernel)) (fun _ _ _ _ _ => (pg_name (i := 1) sc_House_things.nd rfl (Or.inl rfl))) (fun _ _ _ _ _ => (pts_one (pt_val (pe_mt (pv 0) S.cls_House S.meth_is_there G_House_is_there (hr.mono (by decide)) passL (pa_cons (pv 1) pa_nil))))) (fun _ _ _ _ _ => (pe_mt (pv 0) S.cls_House S.meth_row G_House_row (hr.mono (by decide)) passL (pa_cons (pv 1) pa_nil)))) pa_nil)))), ?_⟩
    refine ret_ret (ev_cb (ea_cons (ev_lcLI (fun n => if h.there n = true then (get h.rows n).map (rowD n) else none) (e_sortedRows S x hl (ev_var rfl)) ?_ (fun n hn => ?_) (fun n hn y hy => ?_)) ea_nil) cl_tupleOf)
    · have := sortI_len h.keys
      have : h.keys.length = h.rows.length := by simp [HS.keys]
      omega
    · refine eb_is (eb_B (e_there x (ev_var rfl) (ev_var rfl))) ?_
      by_cases c : h.there n = true
      · obtain ⟨r, hr⟩ := there_row c
        simp [c, hr]
      · simp [c]
    · by_cases c : h.there n = true
      · obtain ⟨r, hr⟩ := there_row c
        rw [if_pos c, hr] at hy
        cases hy
        exact ⟨ev_meth (ev_var rfl) x.ob rfl (ea_cons (ev_var rfl) ea_nil) (pr_row x hr), rowD_pure n r⟩
      · rw [if_neg c] at hy
        cases hy
/-! ### ties -/
def HS.used_pairs (h : HS) : List (Int × Int) := h.pairs.filter fun q => h.there q.1 && h.there q.2
def sp_House_used_pairs (K : PySem.W.Frag) : Sp := rsp fun H as d => ∃ p F h, as = [.obj p] ∧ HRd (hC K) H p F h ∧ h.pairs.length < 100000 ∧ d = .lst (h.used_pairs.map pairD)
theorem op_fst {K : PySem.W.Frag} {H : Hp} {ds : List (Option D)} {ta : TE} {q : Int × Int} (h : EvD ta ds H (pairD q)) : EvD (tOp (rIxT K) ta (tC (.int 0))) ds H (.int q.1) := ev_op h ev_int (op_ixT (i := 0) rfl)
theorem op_snd {K : PySem.W.Frag} {H : Hp} {ds : List (Option D)} {ta : TE} {q : Int × Int} (h : EvD ta ds H (pairD q)) : EvD (tOp (rIxT K) ta (tC (.int 1))) ds H (.int q.2) := ev_op h ev_int (op_ixT (i := 1) rfl)
theorem isSome_if {α : Type} {c : Bool} {a : α} : (if c = true then some a else none).isSome = c := by cases c <;> rfl
theorem ok_House_used_pairs {P : Program} {w : World} {K : PySem.W.Frag} {mg : Str → Option Value} {base : Heap} (S : Says K mg) : Fk P w K mg base 2 (He.fAd K ("House", some "used_pairs")) ["self"] (sp_House_used_pairs K) := by
  have G_House_is_there := ok_House_is_there (P := P) (w := w) (base := base) S
  refine mk_r S.df_House_used_pairs sc_House_used_pairs ?_ (by decide) fun cdv A outer s H H0 E as d bd hp => ?_
  · rintro H as d ⟨p, F, h, rfl, _⟩
    rfl
  · obtain ⟨p, F, h, rfl, x, hl, rfl⟩ := hp
    obtain ⟨hr, tk, px, hu, hu65⟩ := bd
    refine ⟨_, (pss_one (ps_ret (pe_lc (own := [("pair", 1)]) (g := (gName 1)) (tt := (tAnd (tB (tMeth (He.ga K "House") "is_there" (sp_House_is_there K) [] E0 (tVar 0) (tCons (tOp (rIxT K) (tVar 1) (tC (.int 0))) tNil))) (tB (tMeth (He.ga K "House") "is_there" (sp_House_is_there K) [] E0 (tVar 0) (tCons (tOp (rIxT K) (tVar 1) (tC (.int 1))) tNil))))) (te := (tVar 1)) rfl sc_House_used_pairs.nd (pi_list (pe_fld (pv 0) rfl)) (blkOk_by (N := ["self", "pair"]) (sc := defScope s_House_used_pairs) (by decide +kernel)) (fun _ _ _ _ _ => (pg_name (i := 1) sc_House_used_pairs.nd rfl (Or.inl rfl))) (fun _ _ _ _ _ => (pts_one (PW.pt (pw_and (pt_val (pe_mt (pv 0) S.cls_House S.meth_is_there G_House_is_there (hr.mono (by decide)) passL (pa_cons (pe_ix ix_tup (pv 1) (pe_int) (fun _ _ => rfl)) pa_nil))) (pw_and1 (pt_val (pe_mt (pv 0) S.cls_House S.meth_is_there G_House_is_there (hr.mono (by decide)) passL (pa_cons (pe_ix ix_tup (pv 1) (pe_int) (fun _ _ => rfl)) pa_nil)))))))) (fun _ _ _ _ _ => (pv 1))))), ?_⟩
    unfold HS.used_pairs
    rw [← filterMap_if]
    refine ret_ret (ev_lcP _ (e_pairs S x (ev_var rfl)) (by omega) (fun q hq => ?_) (fun q hq y hy => ?_))
    · refine eb_is (eb_and (eb_B (e_there x (ev_var rfl) (op_fst (q := q) (ev_var rfl)))) fun _ => eb_B (e_there x (ev_var rfl) (op_snd (q := q) (ev_var rfl)))) ?_
      rw [isSome_if]
    · split at hy
      · cases hy
        exact ⟨ev_var rfl, rfl⟩
      · cases hy
theorem e_usedPairs {K : PySem.W.Frag} {H : Hp} {p : Addr} {F : Foot} {h : HS} {ds : List (Option D)} {ta : TE} {X : XK} (x : HRd (hC K) H p F h) (hl : h.pairs.length < 100000) (ho : EvD ta ds H (.obj p)) :
    EvD (tMeth (hC K) "used_pairs" (sp_House_used_pairs K) [] X ta tNil) ds H (.lst (h.used_pairs.map pairD)) := ev_meth ho x.ob rfl ea_nil (rsp_pr fun H' e => ⟨p, F, h, rfl, x.mono e, hl, rfl⟩)
def HS.ties (h : HS) (n : Int) : List Int := sortI ((h.used_pairs.filter fun q => decide (q.1 = n)).map (·.2))
def HS.comers (h : HS) (n : Int) : List Int := sortI ((h.used_pairs.filter fun q => decide (q.2 = n)).map (·.1))
def HS.tiesR (h : HS) (n : Int) : Res := if h.there n = true then .ok (.tup ((h.ties n).map D.int)) else .err "NoThing"
def HS.comersR (h : HS) (n : Int) : Res := if h.there n = true then .ok (.tup ((h.comers n).map D.int)) else .err "NoThing"
def sp_House_ties (K : PySem.W.Frag) : Sp := rspX K fun H as r => ∃ p F h n, as = [.obj p, .int n] ∧ HRd (hC K) H p F h ∧ h.pairs.length < 100000 ∧ r = h.tiesR n
def sp_House_comers (K : PySem.W.Frag) : Sp := rspX K fun H as r => ∃ p F h n, as = [.obj p, .int n] ∧ HRd (hC K) H p F h ∧ h.pairs.length < 100000 ∧ r = h.comersR n
theorem fm_map {α β : Type} {c : α → Bool} {f : α → β} {g : β → D} (xs : List α) : xs.filterMap (fun x => if c x = true then some (g (f x)) else none) = ((xs.filter c).map f).map g := by
  rw [filterMap_if (f := fun x => g (f x)), List.map_map]
  rfl
theorem used_le (h : HS) : h.used_pairs.length ≤ h.pairs.length := List.length_filter_le _ _
theorem dec_int_val (a b : Int) : decide ((D.int a).val = (D.int b).val) = decide (a = b) := by simp [D.val]
theorem ok_House_ties {P : Program} {w : World} {K : PySem.W.Frag} {mg : Str → Option Value} {base : Heap} (S : Says K mg) : Fk P w K mg base 3 (He.fAd K ("House", some "ties")) ["self", "number"] (sp_House_ties K) := by
  have G_House_used_pairs := ok_House_used_pairs (P := P) (w := w) (base := base) S
  have G_House_must := ok_House_must (P := P) (w := w) (base := base) S
  refine mk_x S.df_House_ties sc_House_ties ?_ (by decide) fun cdv A outer s H H0 Q E as r bd hp k1 k2 => ?_
  · rintro H as d ⟨p, F, h, n, rfl, _⟩
    rfl
  · obtain ⟨p, F, h, n, rfl, x, hl, rfl⟩ := hp
    obtain ⟨hr, tk, px, hu, hu65⟩ := bd
    refine ⟨_, (pss_cons (ps_expr (pe_mt (pv 0) S.cls_House S.meth_must G_House_must (hr.mono (by decide)) px (pa_cons (pv 1) pa_nil)))
      (pss_one (ps_ret (pe_callTy call_tuple_of (by rfl) S.free_tuple (by decide +kernel) (pa_cons (pe_callB cr_sortedI (by rfl) S.free_sorted (by decide +kernel) (pa_cons (pe_lc (own := [("one", 2), ("other", 3)]) (g := (gTup K 2 (gCons (gName 2) (gCons (gName 3) gNil)))) (tt := (tTest (tOp rEq (tVar 2) (tVar 1)))) (te := (tVar 3)) rfl sc_House_ties.nd (pi_list (pe_mt0 (pv 0) S.cls_House S.meth_used_pairs G_House_used_pairs (hr.mono (by decide)) px)) (blkOk_by (N := ["self", "number", "one", "other"]) (sc := defScope s_House_ties) (by decide +kernel)) (fun _ _ _ _ _ => (pg_tup rfl (pgs_cons (pg_name (i := 2) sc_House_ties.nd rfl (Or.inl rfl)) (pgs_cons (pg_name (i := 3) sc_House_ties.nd rfl (Or.inl rfl)) pgs_nil)))) (fun _ _ _ _ _ => (pts_one (pt_cmpR op_eq (pv 2) (pv 1) (nomark _)))) (fun _ _ _ _ _ => (pv 3))) pa_nil)) pa_nil))))), ?_⟩
    refine go_doX (e_must x (ev_var rfl) (ev_var rfl)) (fun d hd => ?_) (fun y hy H2 e2 => ?_)
    · have ht := mustR_ok hd
      refine go_ret (d := .tup ((h.ties n).map D.int)) ?_ fun v H1 e hv => k1 _ (by simp [HS.tiesR, ht]) v H1 e hv
      refine ev_cb (ea_cons (ev_cb (ea_cons ?_ ea_nil) (cl_sortedI (ns := (h.used_pairs.filter fun q => decide (q.1 = n)).map (·.2)))) ea_nil) cl_tupleOf
      · rw [← fm_map]
        refine ev_lcP2 (by decide) _ (e_usedPairs x hl (ev_var rfl)) (by have := used_le h; omega) (fun q hq => ?_) (fun q hq y hy => ?_)
        · refine eb_is (eb_test (ev_op (ev_var rfl) (ev_var rfl) (op_eqF rfl rfl rfl))) ?_
          rw [isSome_if, dec_int_val]
        · split at hy
          · cases hy
            exact ⟨ev_var rfl, rfl⟩
          · cases hy
    · obtain ⟨c, rfl⟩ := mustR_err hy
      exact k2 _ (by simp [HS.tiesR, c]) H2 e2
theorem ok_House_comers {P : Program} {w : World} {K : PySem.W.Frag} {mg : Str → Option Value} {base : Heap} (S : Says K mg) : Fk P w K mg base 3 (He.fAd K ("House", some "comers")) ["self", "number"] (sp_House_comers K) := by
  have G_House_used_pairs := ok_House_used_pairs (P := P) (w := w) (base := base) S
  have G_House_must := ok_House_must (P := P) (w := w) (base := base) S
  refine mk_x S.df_House_comers sc_House_comers ?_ (by decide) fun cdv A outer s H H0 Q E as r bd hp k1 k2 => ?_
  · rintro H as d ⟨p, F, h, n, rfl, _⟩
    rfl
  · obtain ⟨p, F, h, n, rfl, x, hl, rfl⟩ := hp
    obtain ⟨hr, tk, px, hu, hu65⟩ := bd
    refine ⟨_, (pss_cons (ps_expr (pe_mt (pv 0) S.cls_House S.meth_must G_House_must (hr.mono (by decide)) px (pa_cons (pv 1) pa_nil)))
      (pss_one (ps_ret (pe_callTy call_tuple_of (by rfl) S.free_tuple (by decide +kernel) (pa_cons (pe_callB cr_sortedI (by rfl) S.free_sorted (by decide +kernel) (pa_cons (pe_lc (own := [("one", 2), ("other", 3)]) (g := (gTup K 2 (gCons (gName 2) (gCons (gName 3) gNil)))) (tt := (tTest (tOp rEq (tVar 3) (tVar 1)))) (te := (tVar 2)) rfl sc_House_comers.nd (pi_list (pe_mt0 (pv 0) S.cls_House S.meth_used_pairs G_House_used_pairs (hr.mono (by decide)) px)) (blkOk_by (N := ["self", "number", "one", "other"]) (sc := defScope s_House_comers) (by decide +kernel)) (fun _ _ _ _ _ => (pg_tup rfl (pgs_cons (pg_name (i := 2) sc_House_comers.nd rfl (Or.inl rfl)) (pgs_cons (pg_name (i := 3) sc_House_comers.nd rfl (Or.inl rfl)) pgs_nil)))) (fun _ _ _ _ _ => (pts_one (pt_cmpR op_eq (pv 3) (pv 1) (nomark _)))) (fun _ _ _ _ _ => (pv 2))) pa_nil)) pa_nil))))), ?_⟩
    refine go_doX (e_must x (ev_var rfl) (ev_var rfl)) (fun d hd => ?_) (fun y hy H2 e2 => ?_)
    · have ht := mustR_ok hd
      refine go_ret (d := .tup ((h.comers n).map D.int)) ?_ fun v H1 e hv => k1 _ (by simp [HS.comersR, ht]) v H1 e hv
      refine ev_cb (ea_cons (ev_cb (ea_cons ?_ ea_nil) (cl_sortedI (ns := (h.used_pairs.filter fun q => decide (q.2 = n)).map (·.1)))) ea_nil) cl_tupleOf
      · rw [← fm_map]
        refine ev_lcP2 (by decide) _ (e_usedPairs x hl (ev_var rfl)) (by have := used_le h; omega) (fun q hq => ?_) (fun q hq y hy => ?_)
        · refine eb_is (eb_test (ev_op (ev_var rfl) (ev_var rfl) (op_eqF rfl rfl rfl))) ?_
          rw [isSome_if, dec_int_val]
        · split at hy
          · cases hy
            exact ⟨ev_var rfl, rfl⟩
          · cases hy
    · obtain ⟨c, rfl⟩ := mustR_err hy
      exact k2 _ (by simp [HS.comersR, c]) H2 e2
/-! ### signs -/
def textLen (r : Row) : Option Int := r.text.map fun x => (x.length : Int)
def HS.signs (h : HS) (ns : List Int) : Int := (ns.filterMap fun n => (get h.rows n).bind textLen).sum
def sp_House_signs_of (K : PySem.W.Frag) : Sp := rsp fun H as d => ∃ p F h ns, as = [.obj p, .lst (ns.map D.int)] ∧ HRd (hC K) H p F h ∧ ns.length < 100000 ∧ (∀ n ∈ ns, ∃ r, get h.rows n = some r ∧ ∀ x, r.text = some x → x.length ≤ 1000000) ∧ d = .int (h.signs ns)
theorem ok_House_signs_of {P : Program} {w : World} {K : PySem.W.Frag} {mg : Str → Option Value} {base : Heap} (S : Says K mg) : Fk P w K mg base 1 (He.fAd K ("House", some "signs_of")) ["self", "numbers"] (sp_House_signs_of K) := by
  refine mk_r S.df_House_signs_of sc_House_signs_of ?_ (by decide) fun cdv A outer s H H0 E as d bd hp => ?_
  · rintro H as d ⟨p, F, h, ns, rfl, _⟩
    rfl
  · obtain ⟨p, F, h, ns, rfl, x, hl, hn, rfl⟩ := hp
    obtain ⟨hr, tk, px, hu, hu65⟩ := bd
    refine ⟨_, (pss_one (ps_ret (pe_callB (cr_sum rfl) (by rfl) S.free_sum (by decide +kernel) (pa_cons (pe_lc (own := [("number", 2)]) (g := (gName 2)) (tt := (tB (tNotN (tOp (rIxT K) (tDGet (tFld K (tVar 0) "rows") (tVar 2)) (tC (.int 2)))))) (te := (tCB rLenStr (tCons (tOp (rIxT K) (tDGet (tFld K (tVar 0) "rows") (tVar 2)) (tC (.int 2))) tNil))) rfl sc_House_signs_of.nd (pi_list (pv 1)) (blkOk_by (N := ["self", "numbers", "number"]) (sc := defScope s_House_signs_of) (by decide +kernel)) (fun _ _ _ _ _ => (pg_name (i := 2) sc_House_signs_of.nd rfl (Or.inl rfl))) (fun _ _ _ _ _ => (pts_one (pt_cmp (pc_notN (pe_ix ix_tup (pe_dget hu (pe_fld (pv 0) rfl) (pv 2) (fun _ _ => rfl)) (pe_int) (fun _ _ => rfl)))))) (fun _ _ _ _ _ => (pe_callB call_len_str (by rfl) S.free_len (by decide +kernel) (pa_cons (pe_ix ix_tup (pe_dget hu (pe_fld (pv 0) rfl) (pv 2) (fun _ _ => rfl)) (pe_int) (fun _ _ => rfl)) pa_nil)))) pa_nil)))), ?_⟩
    refine ret_ret (ev_cb (ea_cons ?_ ea_nil) (cl_sum (ns := ns.filterMap fun n => (get h.rows n).bind textLen)))
    · rw [List.map_filterMap]
      refine ev_lcLI _ (ev_var rfl) (by omega) (fun n hn' => ?_) (fun n hn' y hy => ?_)
      · obtain ⟨r, hr, ht⟩ := hn n hn'
        refine eb_is (eb_B (ev_notN (e_text S x (ev_var rfl) (ev_var rfl) hr) (notN_oS _))) ?_
        rw [hr]
        show (!r.text.isNone) = (Option.map D.int (textLen r)).isSome
        unfold textLen
        cases r.text <;> rfl
      · obtain ⟨r, hr, ht⟩ := hn n hn'
        rw [hr] at hy
        obtain ⟨z, hz⟩ : ∃ z, r.text = some z := by
          cases e : r.text with
          | none =>
            have : Option.map D.int (textLen r) = some y := hy
            simp [textLen, e] at this
          | some z => exact ⟨z, rfl⟩
        have : Option.map D.int (textLen r) = some y := hy
        simp [textLen, hz] at this
        subst this
        refine ⟨ev_cb (ea_cons (ev_is (e_text S x (ev_var rfl) (ev_var rfl) hr) (by rw [hz]; rfl)) ea_nil) (cl_lenS (ht z hz)), rfl⟩
theorem e_signs {K : PySem.W.Frag} {H : Hp} {p : Addr} {F : Foot} {h : HS} {ns : List Int} {ds : List (Option D)} {ta tn : TE} {X : XK} (x : HRd (hC K) H p F h) (hl : ns.length < 100000) (hn : ∀ n ∈ ns, ∃ r, get h.rows n = some r ∧ ∀ x, r.text = some x → x.length ≤ 1000000) (ho : EvD ta ds H (.obj p)) (ht : EvD tn ds H (.lst (ns.map D.int))) :
    EvD (tMeth (hC K) "signs_of" (sp_House_signs_of K) [] X ta (tCons tn tNil)) ds H (.int (h.signs ns)) := ev_meth ho x.ob rfl (ea_cons ht ea_nil) (rsp_pr fun H' e => ⟨p, F, h, ns, rfl, x.mono e, hl, hn, rfl⟩)
def HS.textsOk (h : HS) : Prop := ∀ n r x, get h.rows n = some r → r.text = some x → x.length ≤ 1000
def HS.used (h : HS) : Int := h.signs h.keys
def sp_House_used (K : PySem.W.Frag) : Sp := rsp fun H as d => ∃ p F h, as = [.obj p] ∧ HAt (hC K) H p F h ∧ h.rows.length < 64 ∧ h.textsOk ∧ d = .int h.used
theorem keys_row {h : HS} {n : Int} (hn : n ∈ h.keys) : ∃ r, get h.rows n = some r := Option.isSome_iff_exists.mp (get_mem.mpr hn)
theorem ok_House_used {P : Program} {w : World} {K : PySem.W.Frag} {mg : Str → Option Value} {base : Heap} (S : Says K mg) : Fk P w K mg base 2 (He.fAd K ("House", some "used")) ["self"] (sp_House_used K) := by
  have G_House_signs_of := ok_House_signs_of (P := P) (w := w) (base := base) S
  refine mk_r S.df_House_used sc_House_used ?_ (by decide) fun cdv A outer s H H0 E as d bd hp => ?_
  · rintro H as d ⟨p, F, h, rfl, _⟩
    rfl
  · obtain ⟨p, F, h, rfl, x, hl, ht, rfl⟩ := hp
    obtain ⟨hr, tk, px, hu, hu65⟩ := bd
    refine ⟨_, (pss_one (ps_ret (pe_mt (pv 0) S.cls_House S.meth_signs_of G_House_signs_of (hr.mono (by decide)) px (pa_cons (pe_callTy (call_list_dK rfl) (by rfl) S.free_list (by decide +kernel) (pa_cons (pe_fld (pv 0) rfl) pa_nil)) pa_nil)))), ?_⟩
    refine ret_ret (e_signs x.rd (by simp [HS.keys]; omega) (fun n hn => ?_) (ev_var rfl) (ev_is (ev_cb (ea_cons (e_rows S x.rd (ev_var rfl)) ea_nil) (cl_listD x.rw)) ?_))
    · obtain ⟨r, hr⟩ := keys_row hn
      exact ⟨r, hr, fun z hz => Nat.le_trans (ht n r z hr hz) (by decide)⟩
    · unfold HS.keys kds
      rw [List.map_map, List.map_map]
      rfl
theorem e_used {K : PySem.W.Frag} {H : Hp} {p : Addr} {F : Foot} {h : HS} {ds : List (Option D)} {ta : TE} {X : XK} (x : HAt (hC K) H p F h) (hl : h.rows.length < 64) (ht : h.textsOk) (ho : EvD ta ds H (.obj p)) :
    EvD (tMeth (hC K) "used" (sp_House_used K) [] X ta tNil) ds H (.int h.used) := ev_meth ho x.ob rfl ea_nil (rsp_pr fun H' e => ⟨p, F, h, rfl, x.mono e, hl, ht, rfl⟩)
def sp_House_day (K : PySem.W.Frag) : Sp := rsp fun H as d => ∃ p F h, as = [.obj p] ∧ HRd (hC K) H p F h ∧ d = .int h.today
theorem ok_House_day {P : Program} {w : World} {K : PySem.W.Frag} {mg : Str → Option Value} {base : Heap} (S : Says K mg) : Fk P w K mg base 1 (He.fAd K ("House", some "day")) ["self"] (sp_House_day K) := by
  refine mk_r S.df_House_day sc_House_day ?_ (by decide) fun cdv A outer s H H0 E as d bd hp => ?_
  · rintro H as d ⟨p, F, h, rfl, _⟩
    rfl
  · obtain ⟨p, F, h, rfl, x, rfl⟩ := hp
    obtain ⟨hr, tk, px, hu, hu65⟩ := bd
    refine ⟨_, (pss_one (ps_ret (pe_fld (pv 0) rfl))), ?_⟩
    exact ret_ret (e_today S x (ev_var rfl))
/-! ### the shelf -/
def HS.bundle (h : HS) (n : Int) : List Int := (sortI (h.shelved.map (·.1))).filter fun k => decide (get h.shelved k = some n)
def HS.bundleR (h : HS) (n : Int) : Res := if n ∈ h.casts.map (·.1) then .ok (.lst ((h.bundle n).map D.int)) else .err "NoCast"
def sp_House_bundle (K : PySem.W.Frag) : Sp := rspX K fun H as r => ∃ p F h n, as = [.obj p, .int n] ∧ HRd (hC K) H p F h ∧ h.shelved.length < 64 ∧ h.casts.length < 100000 ∧ r = h.bundleR n
theorem map_pairs_fst (ps : List (Int × Int)) : ps.filterMap (fun q => if true = true then some (D.int q.1) else none) = (ps.map (·.1)).map D.int := by
  rw [fm_map (c := fun _ => true) (f := Prod.fst), List.filter_eq_self.mpr fun _ _ => rfl]
theorem ok_House_bundle {P : Program} {w : World} {K : PySem.W.Frag} {mg : Str → Option Value} {base : Heap} (S : Says K mg) : Fk P w K mg base 1 (He.fAd K ("House", some "bundle")) ["self", "number"] (sp_House_bundle K) := by
  refine mk_x S.df_House_bundle sc_House_bundle ?_ (by decide) fun cdv A outer s H H0 Q E as r bd hp k1 k2 => ?_
  · rintro H as d ⟨p, F, h, n, rfl, _⟩
    rfl
  · obtain ⟨p, F, h, n, rfl, x, hl, hl2, rfl⟩ := hp
    obtain ⟨hr, tk, px, hu, hu65⟩ := bd
    refine ⟨_, (pss_cons (ps_if (pt_cmpR op_notIn_seq (pv 1) (pe_lc (own := [("one", 2), ("day", 3)]) (g := (gTup K 2 (gCons (gName 2) (gCons (gName 3) gNil)))) (tt := tYes) (te := (tVar 2)) rfl sc_House_bundle.nd (pi_list (pe_fld (pv 0) rfl)) (blkOk_by (N := ["self", "number", "one", "day"]) (sc := defScope s_House_bundle) (by decide +kernel)) (fun _ _ _ _ _ => (pg_tup rfl (pgs_cons (pg_name (i := 2) sc_House_bundle.nd rfl (Or.inl rfl)) (pgs_cons (pg_name (i := 3) sc_House_bundle.nd rfl (Or.inl rfl)) pgs_nil)))) (fun _ _ _ _ _ => pts_nil) (fun _ _ _ _ _ => (pv 2))) rfl) (pss_one (ps_raise rfl tk (pmk_own PySem.F.excBase_ValueError S.exc_NoCast.1 S.glo_NoCast S.exc_NoCast.2.1 (raises_own S.exc_NoCast.2.2.1 S.exc_NoCast.2.2.2) (by rfl)))) pss_nil)
      (pss_one (ps_ret (pe_lc (own := [("one", 2)]) (g := (gName 2)) (tt := (tTest (tOp rEq (tDGet (tFld K (tVar 0) "shelved") (tVar 2)) (tVar 1)))) (te := (tVar 2)) rfl sc_House_bundle.nd (pi_list (pe_callB (call_sortedDI rfl) (by rfl) S.free_sorted (by decide +kernel) (pa_cons (pe_fld (pv 0) rfl) pa_nil))) (blkOk_by (N := ["self", "number", "one", "day"]) (sc := defScope s_House_bundle) (by decide +kernel)) (fun _ _ _ _ _ => (pg_name (i := 2) sc_House_bundle.nd rfl (Or.inl rfl))) (fun _ _ _ _ _ => (pts_one (pt_cmpR op_eq (pe_dget hu (pe_fld (pv 0) rfl) (pv 2) (fun _ _ => rfl)) (pv 1) (nomark _)))) (fun _ _ _ _ _ => (pv 2)))))), ?_⟩
    refine go_when (b := !decide (n ∈ h.casts.map (·.1))) ?_ (fun c => ?_) (fun c => ?_)
    · refine eb_is (eb_test (ev_op (ev_var rfl) (?_ : EvD _ _ H (.lst ((h.casts.map (·.1)).map D.int))) (op_inL rfl (ints_flat _)))) ?_
      · rw [← map_pairs_fst]
        exact ev_lcP2 (by decide) _ (e_casts S x (ev_var rfl)) (by omega) (fun q hq => eb_yes) (fun q hq y hy => by cases hy; exact ⟨ev_var rfl, rfl⟩)
      rw [ints_val]
      show (!inV (oI (some n)).val _) = _
      rw [inV_ints]
      rfl
    · exact go_raise (x := "NoCast") fun H1 e => k2 _ (by simp at c; simp [HS.bundleR, c]) H1 e
    · refine go_ret (d := .lst ((h.bundle n).map D.int)) ?_ fun v H1 e hv => k1 _ (by simp at c; simp [HS.bundleR, c]) v H1 e hv
      unfold HS.bundle
      rw [← filterMap_if]
      refine ev_lcLI _ (ev_cb (ea_cons (e_shelved S x (ev_var rfl)) ea_nil) (cl_sortedDI x.sh kds_keys (by rw [List.length_map]; exact hl))) (by rw [sortI_len, List.length_map]; omega) (fun k hk => ?_) (fun k hk y hy => ?_)
      · obtain ⟨m, hm⟩ := Option.isSome_iff_exists.mp (get_mem.mpr (mem_sortI.mp hk))
        refine eb_is (eb_test (ev_op (ev_dget (k := Sum.inl k) (e_shelved S x (ev_var rfl)) (ev_var rfl) x.sh (d := .int m) (by rw [kds_get, hm]; rfl)) (ev_var rfl) (op_eqF rfl rfl rfl))) ?_
        rw [isSome_if, dec_int_val, hm]
        simp
      · split at hy
        · cases hy
          exact ⟨ev_var rfl, rfl⟩
        · cases hy
theorem ex_bundle {K : PySem.W.Frag} {H : Hp} {p : Addr} {F : Foot} {h : HS} {n : Int} {ds : List (Option D)} {ta tn : TE} {X : XK} (x : HRd (hC K) H p F h) (hl : h.shelved.length < 64) (hl2 : h.casts.length < 100000) (ho : EvD ta ds H (.obj p)) (hn : EvD tn ds H (.int n)) :
    EvX K X (tMeth (hC K) "bundle" (sp_House_bundle K) [] X ta (tCons tn tNil)) ds H (h.bundleR n) := ex_meth ho x.ob rfl (ea_cons hn ea_nil) (rspX_pr fun H' e => ⟨p, F, h, n, rfl, x.mono e, hl, hl2, rfl⟩)
theorem ev_of_x {K : PySem.W.Frag} {X : XK} {te : TE} {ds : List (Option D)} {H : Hp} {d : D} (h : EvX K X te ds H (.ok d)) : EvD te ds H d := fun σ H1 e n Q k => h σ H1 e n Q (fun d' hd v H2 e2 hv => by cases hd; exact k v H2 e2 hv) fun x hx => by cases hx
theorem e_bundle {K : PySem.W.Frag} {H : Hp} {p : Addr} {F : Foot} {h : HS} {n : Int} {ds : List (Option D)} {ta tn : TE} {X : XK} (x : HRd (hC K) H p F h) (hl : h.shelved.length < 64) (hl2 : h.casts.length < 100000) (hm : n ∈ h.casts.map (·.1)) (ho : EvD ta ds H (.obj p)) (hn : EvD tn ds H (.int n)) :
    EvD (tMeth (hC K) "bundle" (sp_House_bundle K) [] X ta (tCons tn tNil)) ds H (.lst ((h.bundle n).map D.int)) := by
  have hb : h.bundleR n = .ok (.lst ((h.bundle n).map D.int)) := by
    unfold HS.bundleR
    rw [if_pos hm]
  have := ex_bundle (X := X) (n := n) x hl hl2 ho hn
  rw [hb] at this
  exact ev_of_x this
def shelfD (h : HS) (q : Int × Int) : Option D := (get h.rows q.1).map fun r => .tup [.int q.1, .str r.name, .int (q.2 + h.keep), .int (h.bundle q.1).length]
def HS.shelf (h : HS) : List D := h.casts.filterMap (shelfD h)
def sp_House_shelf (K : PySem.W.Frag) : Sp := rsp fun H as d => ∃ p F h, as = [.obj p] ∧ HRd (hC K) H p F h ∧ h.shelved.length < 64 ∧ h.casts.length < 100000 ∧ (∀ q ∈ h.casts, ∃ r, get h.rows q.1 = some r) ∧ d = .tup h.shelf
theorem ok_House_shelf {P : Program} {w : World} {K : PySem.W.Frag} {mg : Str → Option Value} {base : Heap} (S : Says K mg) : Fk P w K mg base 2 (He.fAd K ("House", some "shelf")) ["self"] (sp_House_shelf K) := by
  have G_House_bundle := ok_House_bundle (P := P) (w := w) (base := base) S
  refine mk_r S.df_House_shelf sc_House_shelf ?_ (by decide) fun cdv A outer s H H0 E as d bd hp => ?_
  · rintro H as d ⟨p, F, h, rfl, _⟩
    rfl
  · obtain ⟨p, F, h, rfl, x, hl, hl2, hc, rfl⟩ := hp
    obtain ⟨hr, tk, px, hu, hu65⟩ := bd
    refine ⟨_, (pss_one (ps_ret (pe_callTy call_tuple_of (by rfl) S.free_tuple (by decide +kernel) (pa_cons (pe_lc (own := [("one", 1), ("day", 2)]) (g := (gTup K 2 (gCons (gName 1) (gCons (gName 2) gNil)))) (tt := tYes) (te := (tTup (tCons (tVar 1) (tCons (tOp (rIxT K) (tDGet (tFld K (tVar 0) "rows") (tVar 1)) (tC (.int 1))) (tCons (tOp rAddI (tVar 2) (tFld K (tVar 0) "keep")) (tCons (tCB (rLenSq K) (tCons (tMeth (He.ga K "House") "bundle" (sp_House_bundle K) [] E0 (tVar 0) (tCons (tVar 1) tNil)) tNil)) tNil)))))) rfl sc_House_shelf.nd (pi_list (pe_fld (pv 0) rfl)) (blkOk_by (N := ["self", "one", "day"]) (sc := defScope s_House_shelf) (by decide +kernel)) (fun _ _ _ _ _ => (pg_tup rfl (pgs_cons (pg_name (i := 1) sc_House_shelf.nd rfl (Or.inl rfl)) (pgs_cons (pg_name (i := 2) sc_House_shelf.nd rfl (Or.inl rfl)) pgs_nil)))) (fun _ _ _ _ _ => pts_nil) (fun _ _ _ _ _ => (pe_tup (pa_cons (pv 1) (pa_cons (pe_ix ix_tup (pe_dget hu (pe_fld (pv 0) rfl) (pv 1) (fun _ _ => rfl)) (pe_int) (fun _ _ => rfl)) (pa_cons (pe_op op_add (pv 2) (pe_fld (pv 0) rfl)) (pa_cons (pe_callB call_len_seq (by rfl) S.free_len (by decide +kernel) (pa_cons (pe_mt (pv 0) S.cls_House S.meth_bundle G_House_bundle (hr.mono (by decide)) passL (pa_cons (pv 1) pa_nil)) pa_nil)) pa_nil))))))) pa_nil)))), ?_⟩
    refine ret_ret (ev_cb (ea_cons (ev_lcP2 (by decide) (shelfD h) (e_casts S x (ev_var rfl)) (by omega) (fun q hq => ?_) (fun q hq y hy => ?_)) ea_nil) cl_tupleOf)
    · obtain ⟨r, hr⟩ := hc q hq
      refine eb_is eb_yes ?_
      simp [shelfD, hr]
    · obtain ⟨r, hr⟩ := hc q hq
      simp only [shelfD, hr, Option.map_some, Option.some.injEq] at hy
      subst hy
      refine ⟨ev_tup (ea_cons (ev_var rfl) (ea_cons (e_name S x (ev_var rfl) (ev_var rfl) hr) (ea_cons (ev_op (ev_var rfl) (e_keep S x (ev_var rfl)) (op_I0 fun _ => rfl)) (ea_cons ?_ ea_nil)))) (by simp), rfl⟩
      refine ev_is (ev_cb (ea_cons (e_bundle x hl hl2 (List.mem_map.mpr ⟨q, hq, rfl⟩) (ev_var rfl) (ev_var rfl)) ea_nil) cl_lenL) ?_
      rw [List.length_map]
def HS.innerR (h : HS) (n : Int) : Res := if n ∈ h.casts.map (·.1) then .ok (.tup ((h.bundle n).filterMap fun k => (get h.rows k).map (rowD k))) else .err "NoCast"
def sp_House_inner (K : PySem.W.Frag) : Sp := rspX K fun H as r => ∃ p F h n, as = [.obj p, .int n] ∧ HRd (hC K) H p F h ∧ h.shelved.length < 64 ∧ h.casts.length < 100000 ∧ (∀ k ∈ h.shelved.map (·.1), ∃ r, get h.rows k = some r) ∧ r = h.innerR n
theorem ok_House_inner {P : Program} {w : World} {K : PySem.W.Frag} {mg : Str → Option Value} {base : Heap} (S : Says K mg) : Fk P w K mg base 2 (He.fAd K ("House", some "inner")) ["self", "number"] (sp_House_inner K) := by
  have G_House_bundle := ok_House_bundle (P := P) (w := w) (base := base) S
  have G_House_row := ok_House_row (P := P) (w := w) (base := base) S
  refine mk_x S.df_House_inner sc_House_inner ?_ (by decide) fun cdv A outer s H H0 Q E as r bd hp k1 k2 => ?_
  · rintro H as d ⟨p, F, h, n, rfl, _⟩
    rfl
  · obtain ⟨p, F, h, n, rfl, x, hl, hl2, hc, rfl⟩ := hp
    obtain ⟨hr, tk, px, hu, hu65⟩ := bd
    refine ⟨_, (pss_one (ps_ret (pe_callTy call_tuple_of (by rfl) S.free_tuple (by decide +kernel) (pa_cons (pe_lc (own := [("one", 2)]) (g := (gName 2)) (tt := tYes) (te := (tMeth (He.ga K "House") "row" (sp_House_row K) [] E0 (tVar 0) (tCons (tVar 2) tNil))) rfl sc_House_inner.nd (pi_list (pe_mt (pv 0) S.cls_House S.meth_bundle G_House_bundle (hr.mono (by decide)) px (pa_cons (pv 1) pa_nil))) (blkOk_by (N := ["self", "number", "one"]) (sc := defScope s_House_inner) (by decide +kernel)) (fun _ _ _ _ _ => (pg_name (i := 2) sc_House_inner.nd rfl (Or.inl rfl))) (fun _ _ _ _ _ => pts_nil) (fun _ _ _ _ _ => (pe_mt (pv 0) S.cls_House S.meth_row G_House_row (hr.mono (by decide)) passL (pa_cons (pv 2) pa_nil)))) pa_nil)))), ?_⟩
    by_cases hm : n ∈ h.casts.map (·.1)
    · refine go_ret (d := .tup ((h.bundle n).filterMap fun k => (get h.rows k).map (rowD k))) ?_ fun v H1 e hv => k1 _ (by simp only [HS.innerR, if_pos hm]) v H1 e hv
      refine ev_cb (ea_cons (ev_lcLI (fun k => (get h.rows k).map (rowD k)) (e_bundle x hl hl2 hm (ev_var rfl) (ev_var rfl)) ?_ (fun k hk => ?_) (fun k hk y hy => ?_)) ea_nil) cl_tupleOf
      · have := List.length_filter_le (fun k => decide (get h.shelved k = some n)) (sortI (h.shelved.map (·.1)))
        rw [sortI_len, List.length_map] at this
        unfold HS.bundle
        omega
      · obtain ⟨r, hr⟩ := hc k (mem_sortI.mp (List.mem_filter.mp hk).1)
        refine eb_is eb_yes ?_
        simp [hr]
      · obtain ⟨r, hr⟩ := hc k (mem_sortI.mp (List.mem_filter.mp hk).1)
        rw [hr] at hy
        cases hy
        exact ⟨ev_meth (ev_var rfl) x.ob rfl (ea_cons (ev_var rfl) ea_nil) (pr_row x hr), rowD_pure k r⟩
    · have hb : h.bundleR n = .err "NoCast" := by
        unfold HS.bundleR
        rw [if_neg hm]
      intro σ H1 e nn
      have hx := ex_bundle (X := E) (n := n) x hl hl2 (ev_var (ds := [some (.obj p), some (.int n), none]) (i := 0) rfl) (ev_var (i := 1) rfl)
      rw [hb] at hx
      exact hx σ H1 e nn _ (fun d hd => by cases hd) fun z hz H2 e2 => k2 z (by simp only [HS.innerR, if_neg hm]; exact hz) H2 (e.trans e2)
end Cs
set_option Elab.async false
set_option linter.all false
set_option maxRecDepth 100000
set_option maxHeartbeats 4000000
namespace Cs
open PySem PySem.Spec PyProof.Rows L2
/-! ### the law's state -/
structure LRow where
  row : Row
  mark : Option Int
structure LS where
  keep : Int
  room : Int
  rows : List (Int × LRow)
  casts : List (Int × Int)
  ties : List (Int × Int)
  day : Int
  count : Int
def LRow.d (r : LRow) : D := .tup [oI r.row.par, .str r.row.name, oS r.row.text, oI r.mark]
theorem LRow.pure (r : LRow) : r.d.pure = true := by
  obtain ⟨⟨p, n, t⟩, m⟩ := r
  cases p <;> cases t <;> cases m <;> rfl
structure SFoot where
  rows : Addr
  casts : Addr
  ties : Addr
def stD (G : SFoot) (s : LS) : List (Key × D) := [(.inr "keep", .int s.keep), (.inr "room", .int s.room), (.inr "rows", .obj G.rows), (.inr "casts", .obj G.casts), (.inr "ties", .obj G.ties), (.inr "day", .int s.day), (.inr "count", .int s.count)]
structure SRd (H : Hp) (q : Addr) (G : SFoot) (s : LS) : Prop where
  ob : DAt H q (stD G s)
  rw : DAt H G.rows (kds LRow.d s.rows)
  ca : Is H (.lst (s.casts.map pairD)) (.ref G.casts)
  ti : Is H (.lst (s.ties.map pairD)) (.ref G.ties)
structure SAt (H : Hp) (q : Addr) (G : SFoot) (s : LS) : Prop where
  ob : DOn H q (stD G s)
  rw : DOn H G.rows (kds LRow.d s.rows)
  ca : Is H (.lst (s.casts.map pairD)) (.ref G.casts)
  ti : Is H (.lst (s.ties.map pairD)) (.ref G.ties)
  n1 : q ≠ G.rows
  n2 : G.casts ≠ G.ties
section
variable {q : Addr} {H H' : Hp} {G : SFoot} {s : LS}
theorem SAt.rd (x : SAt H q G s) : SRd H q G s := ⟨x.ob.at, x.rw.at, x.ca, x.ti⟩
theorem SRd.mono (e : Ex H H') (x : SRd H q G s) : SRd H' q G s := ⟨x.ob.mono e, x.rw.mono e, x.ca.mono e, x.ti.mono e⟩
theorem SAt.mono (e : Ex H H') (x : SAt H q G s) : SAt H' q G s := ⟨x.ob.mono e, x.rw.mono e, x.ca.mono e, x.ti.mono e, x.n1, x.n2⟩
theorem SRd.lock {kvs : List (Key × V)} {od : Obj} {b : Addr} (hb : H b = some (.dK kvs)) (x : SRd H q G s) : SRd (upd H b (.frz od (.dK kvs))) q G s :=
  ⟨x.ob.lock hb, x.rw.lock hb, x.ca.upd_dK hb, x.ti.upd_dK hb⟩
end
section
variable {K : PySem.W.Frag} {H : Hp} {q : Addr} {G : SFoot} {s : LS} {ds : List (Option D)} {ta tn : TE}
theorem s_keep (x : SRd H q G s) (ho : EvD ta ds H (.obj q)) : EvD (tDGet ta (tC (.str "keep"))) ds H (.int s.keep) := ev_dget (k := Sum.inr "keep") ho ev_str x.ob rfl
theorem s_room (x : SRd H q G s) (ho : EvD ta ds H (.obj q)) : EvD (tDGet ta (tC (.str "room"))) ds H (.int s.room) := ev_dget (k := Sum.inr "room") ho ev_str x.ob rfl
theorem s_rows (x : SRd H q G s) (ho : EvD ta ds H (.obj q)) : EvD (tDGet ta (tC (.str "rows"))) ds H (.obj G.rows) := ev_dget (k := Sum.inr "rows") ho ev_str x.ob rfl
theorem s_castsO (x : SRd H q G s) (ho : EvD ta ds H (.obj q)) : EvD (tDGet ta (tC (.str "casts"))) ds H (.obj G.casts) := ev_dget (k := Sum.inr "casts") ho ev_str x.ob rfl
theorem s_tiesO (x : SRd H q G s) (ho : EvD ta ds H (.obj q)) : EvD (tDGet ta (tC (.str "ties"))) ds H (.obj G.ties) := ev_dget (k := Sum.inr "ties") ho ev_str x.ob rfl
theorem s_day (x : SRd H q G s) (ho : EvD ta ds H (.obj q)) : EvD (tDGet ta (tC (.str "day"))) ds H (.int s.day) := ev_dget (k := Sum.inr "day") ho ev_str x.ob rfl
theorem s_count (x : SRd H q G s) (ho : EvD ta ds H (.obj q)) : EvD (tDGet ta (tC (.str "count"))) ds H (.int s.count) := ev_dget (k := Sum.inr "count") ho ev_str x.ob rfl
/-- an object that stands as that data -/
theorem ev_as {a : Addr} {d : D} (h : EvD ta ds H (.obj a)) (hd : Is H d (.ref a)) : EvD ta ds H d := fun σ H1 e n Q k => h σ H1 e n Q fun v H2 e2 hv => k v H2 e2 (by cases (show _ = _ from hv); exact hd.mono (e.trans e2))
theorem s_casts (x : SRd H q G s) (ho : EvD ta ds H (.obj q)) : EvD (tDGet ta (tC (.str "casts"))) ds H (.lst (s.casts.map pairD)) := ev_as (s_castsO x ho) x.ca
theorem s_ties (x : SRd H q G s) (ho : EvD ta ds H (.obj q)) : EvD (tDGet ta (tC (.str "ties"))) ds H (.lst (s.ties.map pairD)) := ev_as (s_tiesO x ho) x.ti
theorem s_row {n : Int} {r : LRow} (x : SRd H q G s) (ho : EvD ta ds H (.obj q)) (hn : EvD tn ds H (.int n)) (hr : get s.rows n = some r) : EvD (tDGet (tDGet ta (tC (.str "rows"))) tn) ds H r.d := ev_dget (k := Sum.inl n) (s_rows x ho) hn x.rw (by rw [kds_get, hr]; rfl)
theorem s_par {n : Int} {r : LRow} (x : SRd H q G s) (ho : EvD ta ds H (.obj q)) (hn : EvD tn ds H (.int n)) (hr : get s.rows n = some r) : EvD (tOp (rIxT K) (tDGet (tDGet ta (tC (.str "rows"))) tn) (tC (.int 0))) ds H (oI r.row.par) := ev_op (s_row x ho hn hr) ev_int (op_ixT (i := 0) rfl)
theorem s_name {n : Int} {r : LRow} (x : SRd H q G s) (ho : EvD ta ds H (.obj q)) (hn : EvD tn ds H (.int n)) (hr : get s.rows n = some r) : EvD (tOp (rIxT K) (tDGet (tDGet ta (tC (.str "rows"))) tn) (tC (.int 1))) ds H (.str r.row.name) := ev_op (s_row x ho hn hr) ev_int (op_ixT (i := 1) rfl)
theorem s_text {n : Int} {r : LRow} (x : SRd H q G s) (ho : EvD ta ds H (.obj q)) (hn : EvD tn ds H (.int n)) (hr : get s.rows n = some r) : EvD (tOp (rIxT K) (tDGet (tDGet ta (tC (.str "rows"))) tn) (tC (.int 2))) ds H (oS r.row.text) := ev_op (s_row x ho hn hr) ev_int (op_ixT (i := 2) rfl)
theorem s_mark {n : Int} {r : LRow} (x : SRd H q G s) (ho : EvD ta ds H (.obj q)) (hn : EvD tn ds H (.int n)) (hr : get s.rows n = some r) : EvD (tOp (rIxT K) (tDGet (tDGet ta (tC (.str "rows"))) tn) (tC (.int 3))) ds H (oI r.mark) := ev_op (s_row x ho hn hr) ev_int (op_ixT (i := 3) rfl)
end
namespace LS
def keys (s : LS) : List Int := s.rows.map (·.1)
def there (s : LS) : Option Int → Bool
  | none => false
  | some n => match get s.rows n with
    | some r => r.mark.isNone
    | none => false
end LS
/-! ### _law_there, _law_no_box, _law_names, _law_used -/
def sp_law_there (K : PySem.W.Frag) : Sp := rsp fun H as d => ∃ q G s n, as = [.obj q, oI n] ∧ SRd H q G s ∧ d = .bl (s.there n)
theorem ok_law_there {P : Program} {w : World} {K : PySem.W.Frag} {mg : Str → Option Value} {base : Heap} (S : Says K mg) : Fk P w K mg base 1 (He.fAd K ("_law_there", none)) ["state", "number"] (sp_law_there K) := by
  refine mk_r S.df_law_there sc_law_there ?_ (by decide) fun cdv A outer s0 H H0 E as d bd hp => ?_
  · rintro H as d ⟨q, G, s, n, rfl, _⟩
    rfl
  · obtain ⟨q, G, s, n, rfl, x, rfl⟩ := hp
    obtain ⟨hr, tk, px, hu, hu65⟩ := bd
    refine ⟨_, (pss_one (ps_ret (pe_and (pe_cmp (pc_dinN hu (pv 1) (pe_dget hu (pv 0) (pe_str) (fun _ _ => rfl))) rfl) (pe_one (pe_cmp (pc_isN (pe_ix ix_tup (pe_dget hu (pe_dget hu (pv 0) (pe_str) (fun _ _ => rfl)) (pv 1) (fun _ _ => rfl)) (pe_int) (fun _ _ => rfl))) rfl))))), ?_⟩
    cases n with
    | none =>
      refine ret_ret (ev_is (ev_andV (c := false) (ev_dinN (b := false) (ev_var rfl) (s_rows x (ev_var rfl)) x.rw (.inl ⟨rfl, rfl⟩)) fun q => by cases q) rfl)
    | some n =>
      cases e : get s.rows n with
      | none =>
        refine ret_ret (ev_is (ev_andV (c := false) (ev_dinN (b := false) (ev_var rfl) (s_rows x (ev_var rfl)) x.rw (.inr ⟨Sum.inl n, rfl, by rw [kds_get, e]; rfl⟩)) fun q => by cases q) ?_)
        simp [LS.there, e]
      | some r =>
        refine ret_ret (ev_is (ev_andV (c := r.mark.isNone) (ev_dinN (b := true) (ev_var rfl) (s_rows x (ev_var rfl)) x.rw (.inr ⟨Sum.inl n, rfl, by rw [kds_get, e]; rfl⟩)) fun _ => ev_isN (s_mark x (ev_var rfl) (ev_var rfl) e) (notN_oI _)) ?_)
        simp [LS.there, e]
section
variable {K : PySem.W.Frag} {H : Hp} {q : Addr} {G : SFoot} {s : LS} {ds : List (Option D)} {ta tn : TE} {X : XK}
theorem s_thereO {n : Option Int} (x : SRd H q G s) (ho : EvD ta ds H (.obj q)) (hn : EvD tn ds H (oI n)) : EvD (tCall (sp_law_there K) [] X (tCons ta (tCons tn tNil))) ds H (.bl (s.there n)) := ev_call (ea_cons ho (ea_cons hn ea_nil)) (rsp_pr fun H' e => ⟨q, G, s, n, rfl, x.mono e, rfl⟩)
theorem s_there {n : Int} (x : SRd H q G s) (ho : EvD ta ds H (.obj q)) (hn : EvD tn ds H (.int n)) : EvD (tCall (sp_law_there K) [] X (tCons ta (tCons tn tNil))) ds H (.bl (s.there (some n))) := s_thereO (n := some n) x ho hn
end
theorem sthere_row {s : LS} {n : Int} (e : s.there (some n) = true) : ∃ r, get s.rows n = some r ∧ r.mark = none := by
  unfold LS.there at e
  dsimp only at e
  split at e
  · rename_i r hr
    exact ⟨r, hr, by simpa using e⟩
  · cases e
def LS.noBox (s : LS) : Option Int → Bool
  | none => false
  | some n => !s.there (some n) || isSheet ((get s.rows n).map LRow.row)
def sp_law_no_box (K : PySem.W.Frag) : Sp := rsp fun H as d => ∃ q G s n, as = [.obj q, oI n] ∧ SRd H q G s ∧ d = .bl (s.noBox n)
theorem ok_law_no_box {P : Program} {w : World} {K : PySem.W.Frag} {mg : Str → Option Value} {base : Heap} (S : Says K mg) : Fk P w K mg base 2 (He.fAd K ("_law_no_box", none)) ["state", "parent"] (sp_law_no_box K) := by
  have G_law_there := ok_law_there (P := P) (w := w) (base := base) S
  refine mk_r S.df_law_no_box sc_law_no_box ?_ (by decide) fun cdv A outer s0 H H0 E as d bd hp => ?_
  · rintro H as d ⟨q, G, s, n, rfl, _⟩
    rfl
  · obtain ⟨q, G, s, n, rfl, x, rfl⟩ := hp
    obtain ⟨hr, tk, px, hu, hu65⟩ := bd
    refine ⟨_, (pss_one (ps_ret (pe_and (pe_cmp (pc_notN (pv 1)) rfl) (pe_one (pe_or (pe_not (pe_cf G_law_there (hr.mono (by decide)) (by rfl) S.glo__law_there px (pa_cons (pv 0) (pa_cons (pv 1) pa_nil)))) (pe_one (pe_cmp (pc_notN (pe_ix ix_tup (pe_dget hu (pe_dget hu (pv 0) (pe_str) (fun _ _ => rfl)) (pv 1) (fun _ _ => rfl)) (pe_int) (fun _ _ => rfl))) rfl))))))), ?_⟩
    cases n with
    | none => exact ret_ret (ev_is (ev_andV (c := true) (ev_notN (ev_var rfl) (notN_oI none)) fun q => by simp at q) rfl)
    | some n =>
      refine ret_ret (ev_is (ev_andV (ev_notN (ev_var rfl) (notN_oI (some n))) fun _ => ev_orV (c := isSheet ((get s.rows n).map LRow.row)) (ev_notV (s_there x (ev_var rfl) (ev_var rfl))) fun q => ?_) (by simp [LS.noBox]))
      obtain ⟨r, hr, _⟩ := sthere_row (s := s) (n := n) (by simpa using q)
      refine ev_is (ev_notN (s_text x (ev_var rfl) (ev_var rfl) hr) (notN_oS _)) ?_
      rw [hr]
      show D.bl (!r.row.text.isNone) = D.bl r.row.text.isSome
      cases r.row.text <;> rfl
theorem s_noBox {K : PySem.W.Frag} {H : Hp} {q : Addr} {G : SFoot} {s : LS} {ds : List (Option D)} {ta tn : TE} {X : XK} {n : Option Int} (x : SRd H q G s) (ho : EvD ta ds H (.obj q)) (hn : EvD tn ds H (oI n)) : EvD (tCall (sp_law_no_box K) [] X (tCons ta (tCons tn tNil))) ds H (.bl (s.noBox n)) := ev_call (ea_cons ho (ea_cons hn ea_nil)) (rsp_pr fun H' e => ⟨q, G, s, n, rfl, x.mono e, rfl⟩)
/-- found = []; for one in d: if c: found.append(e); return found -/
theorem ret_collect {K : PySem.W.Frag} {H : Hp} {ds : List (Option D)} {td te : TE} {c : TT} {j f : Nat} {a : Addr} {kvs : List (Key × V)} {ns : List Int} (hjf : j ≠ f) (hD : H a = some (.dK kvs)) (hks : kvs.map (·.1) = ns.map Sum.inl) (hz : ns.length < 100000) (g : Int → Option D)
    (hf : f < ds.length) (hpj : pureE ((ds.set f none).set j none) = true) (hd : ∀ od, EvD td (ds.set f none) (upd H a (.frz od (.dK kvs))) (.obj a)) (ht : ∀ od, ∀ n ∈ ns, EvB c ((ds.set f none).set j (some (.int n))) (upd H a (.frz od (.dK kvs))) (g n).isSome)
    (he : ∀ od, ∀ n ∈ ns, ∀ y, g n = some y → EvD te ((ds.set f none).set j (some (.int n))) (upd H a (.frz od (.dK kvs))) y ∧ y.pure = true) :
    Ret (tSeq (tAsg (tLst tNil) (gName f)) (tSeq (tLock (tFor (iKeys td) (gName j) (tIfS c (tDrop (tBM K "list" rAppend (tVar f) (tCons te tNil))) tNext))) (tRet (tVar f)))) ds H (.lst (ns.filterMap g)) := by
  intro σ H1 e n E q
  refine ⟨by show 0 ≤ sizeLine; decide, fun l hl => ?_⟩
  have el : Ex H1 (upd H1 l (.lst [])) := Ex.new hl
  have hD1 : (upd H1 l (.lst [])) a = some (.dK kvs) := el _ _ (e _ _ hD)
  refine ⟨a, _, hD1, trivial, fun od => ?_⟩
  have fl : f < σ.length := by
    have : ∀ {σ : L2.St} {ds : List (Option D)}, EnvOk H1 σ ds → σ.length = ds.length := by
      intro σ
      induction σ with
      | nil => intro ds h; cases ds with | nil => rfl | cons _ _ => exact h.elim
      | cons x σ ih =>
        intro ds h
        cases ds with
        | nil => cases x <;> exact h.elim
        | cons y ds =>
          cases y with
          | none => exact congrArg Nat.succ (ih (show EnvOk H1 σ ds by cases x <;> exact h))
          | some d => cases x with
            | none => exact h.elim
            | some v => exact congrArg Nat.succ (ih h.2)
    rw [this n]
    exact hf
  have eL : Ex (upd H a (.frz od (.dK kvs))) (upd (upd H1 l (.lst [])) a (.frz od (.dK kvs))) := lock_ex hD (e.trans el)
  have nL : EnvOk (upd (upd H1 l (.lst [])) a (.frz od (.dK kvs))) (σ.set f (some (.ref l))) (ds.set f none) := ((n.mono el).clear f _).upd_dK hD1
  refine hd od _ _ eL nL _ fun v H2 e2 hv => ⟨a, od, hv, .inl ⟨kvs, e2 _ _ upd_same, ?_⟩⟩
  have nal : a ≠ l := ne_of_none (e _ _ hD) hl
  have hHl : H2 l = some (.lst []) := e2 _ _ (by rw [upd_ne nal.symm]; exact upd_same)
  have hks' : ∀ (i : Nat) k v, kvs[i]? = some (k, v) → ∃ m, k = Sum.inl m ∧ ns[i]? = some m := fun i k v hk => by
    have : (kvs.map (·.1))[i]? = some k := by rw [List.getElem?_map, hk]; rfl
    rw [hks, List.getElem?_map] at this
    cases e3 : ns[i]? with
    | none => rw [e3] at this; cases this
    | some m =>
      rw [e3] at this
      cases this
      exact ⟨m, rfl, rfl⟩
  have hlen : kvs.length = ns.length := by
    have := congrArg List.length hks
    simpa using this
  -- the base in which l is not known: H1 with the lock
  have hbl : (upd H1 a (.frz od (.dK kvs))) l = none := by rw [upd_ne nal.symm]; exact hl
  have eB : Ex (upd H a (.frz od (.dK kvs))) (upd H1 a (.frz od (.dK kvs))) := lock_ex hD e
  refine for_it walk_keys (fun i σ' H' => σ'[f]? = some (some (.ref l)) ∧ EnvOk H' σ' ((ds.set f none).set j none) ∧ Acc (upd H1 a (.frz od (.dK kvs))) l ((ns.take i).filterMap g) H') ?_ ?_ ?_ ?_
  · refine ⟨by rw [List.getElem?_set_self fl], (nL.mono e2).forget j, ⟨hbl, ?_, [], hHl, rfl, rfl⟩⟩
    intro b o hb
    refine e2 b o ?_
    by_cases hba : b = a
    · rw [hba] at hb ⊢
      rw [upd_same] at hb ⊢
      exact hb
    · rw [upd_ne hba] at hb ⊢
      exact el b o hb
  · intro i σ' H' _ p
    exact p.2.2.2.1 _ _ upd_same
  · rintro i x σ' H' H'' hi ⟨h1, h2, h3⟩ ⟨rfl, k, v, hk, rfl⟩
    obtain ⟨m, rfl, hm⟩ := hks' i k v hk
    have hm' : m ∈ ns := List.mem_of_getElem? hm
    show tIfS c _ tNext _ (σ'.set j (some (.int m))) H''
    have env2 : EnvOk H'' (σ'.set j (some (.int m))) ((ds.set f none).set j (some (.int m))) := by
      have := h2.set (d := .int m) (v := .int m) rfl j
      rw [List.set_set] at this
      exact this
    refine ht od m hm' _ _ (eB.trans h3.2.1) env2 _ fun H3 e3 => ?_
    have hfj : (σ'.set j (some (V.int m)))[f]? = some (some (.ref l)) := by
      rw [List.getElem?_set_ne hjf]
      exact h1
    have envn : EnvOk H3 (σ'.set j (some (.int m))) ((ds.set f none).set j none) := (h2.mono e3).clear j _ |> fun z => by rw [List.set_set] at z; exact z
    cases hg : g m with
    | none =>
      refine iteF ?_
      refine ⟨hfj, envn, ?_⟩
      rw [fm_take_succ hm, hg]
      simpa using h3.ext e3
    | some y =>
      obtain ⟨hy, py⟩ := he od m hm' y hg
      refine iteT ?_
      have h33 := h3.ext e3
      obtain ⟨_, _, acc, hacc, _, _⟩ := id h33
      refine ⟨_, hfj, .inl ⟨rfl, acc, SqL.of hacc⟩, hy _ H3 (eB.trans h33.2.1) (env2.mono e3) _ fun u H4 e4 hu => ?_⟩
      have h44 := h33.ext e4
      obtain ⟨_, _, acc', hacc', il', _⟩ := id h44
      refine ⟨l, acc', u, rfl, rfl, hacc', ?_, hfj, ?_, ?_⟩
      · rw [il'.len]
        have h5 := filterMap_len g (ns.take i)
        have h6 := List.length_take_le' i ns
        exact Nat.lt_of_le_of_lt (Nat.le_trans h5 h6) (Nat.lt_trans hz (by decide))
      · exact (envn.mono e4).tups (fun b vs hb => by rw [upd_ne (ne_of hb hacc' (by intro z; cases z))]; exact hb) hpj
      · rw [fm_take_succ hm, hg]
        exact h44.snoc hacc' hu py
  · rintro σ' H' ⟨h1, h2, h3⟩
    rw [hlen, List.take_length] at h3
    obtain ⟨_, ex, acc, hacc, il, _⟩ := h3
    have hLa : H' a = some (.frz od (.dK kvs)) := ex _ _ upd_same
    obtain ⟨_, ee⟩ := unlock_ex (e _ _ hD) ex
    exact ⟨hLa, _, h1, q _ _ ee (Is.unlock hLa ⟨l, acc, rfl, hacc, il⟩)⟩
end Cs
set_option Elab.async false
set_option linter.all false
set_option maxRecDepth 100000
set_option maxHeartbeats 4000000
namespace Cs
open PySem PySem.Spec PyProof.Rows L2
section
variable {H : Hp} {i j : Int}
theorem op_addI : Op rAddI H (.int i) (.int j) (.int (i + j)) := op_I0 fun _ => rfl
theorem op_subI : Op rSubI H (.int i) (.int j) (.int (i - j)) := op_I0 fun _ => rfl
theorem op_mulI (h : CMul i j) : Op rMulI H (.int i) (.int j) (.int (i * j)) := op_I h fun _ => rfl
theorem op_modI (h : 0 < j) : Op rModI H (.int i) (.int j) (.int (i % j)) := op_I h fun _ => rfl
theorem op_ltI : Op rLtI H (.int i) (.int j) (.bl (decide (i < j))) := op_I0 fun _ => rfl
theorem op_leI : Op rLeI H (.int i) (.int j) (.bl (decide (i ≤ j))) := op_I0 fun _ => rfl
theorem op_gtI : Op rGtI H (.int i) (.int j) (.bl (decide (j < i))) := op_I0 fun _ => rfl
end
def LS.names (s : LS) (par but : Option Int) : List Str := (s.keys.filter fun n => s.there (some n) && decide (some n ≠ but)).filterMap fun n => (get s.rows n).bind fun r => if r.row.par = par then some r.row.name else none
def sp_law_names (K : PySem.W.Frag) : Sp := rsp fun H as d => ∃ q G s par but, as = [.obj q, oI par, oI but] ∧ SAt H q G s ∧ s.rows.length < 64 ∧ d = .lst ((s.names par but).map D.str)
theorem fm_filter {α β : Type} {c : α → Bool} {f : α → Option β} (xs : List α) : (xs.filter c).filterMap f = xs.filterMap fun x => if c x = true then f x else none := by
  induction xs with
  | nil => rfl
  | cons x xs ih => by_cases h : c x = true <;> simp [h, ih, List.filterMap_cons]
theorem skeys_row {s : LS} {n : Int} (hn : n ∈ s.keys) : ∃ r, get s.rows n = some r := Option.isSome_iff_exists.mp (get_mem.mpr hn)
theorem ok_law_names {P : Program} {w : World} {K : PySem.W.Frag} {mg : Str → Option Value} {base : Heap} (S : Says K mg) : Fk P w K mg base 2 (He.fAd K ("_law_names", none)) ["state", "parent", "but"] (sp_law_names K) := by
  have G_law_there := ok_law_there (P := P) (w := w) (base := base) S
  refine mk_r S.df_law_names sc_law_names ?_ (by decide) fun cdv A outer s0 H H0 E as d bd hp => ?_
  · rintro H as d ⟨q, G, s, par, but, rfl, _⟩
    rfl
  · obtain ⟨q, G, s, par, but, rfl, x, hl, rfl⟩ := hp
    obtain ⟨hr, tk, px, hu, hu65⟩ := bd
    refine ⟨_, (pss_cons (ps_set (i := 3) sc_law_names.nd rfl (Or.inl rfl) (pe_lst pa_nil))
      (pss_cons (ps_lock (ps_for (passes_of rfl) rfl (pi_keys (pe_dget hu (pv 0) (pe_str) (fun _ _ => rfl))) (pg_name (i := 4) sc_law_names.nd rfl (Or.inl rfl)) (pss_one (ps_if (PW.pt (pw_and (pt_val (pe_cf G_law_there (hr.mono (by decide)) (by rfl) S.glo__law_there px (pa_cons (pv 0) (pa_cons (pv 4) pa_nil)))) (pw_and (pt_cmpR op_ne (pv 4) (pv 2) (nomark _)) (pw_and1 (pt_cmpR op_eq (pe_ix ix_tup (pe_dget hu (pe_dget hu (pv 0) (pe_str) (fun _ _ => rfl)) (pv 4) (fun _ _ => rfl)) (pe_int) (fun _ _ => rfl)) (pv 1) (nomark _)))))) (pss_one (ps_expr (pe_bm PySem.F.plainAttrs_list PySem.F.slot_list_append PySem.F.type_list_append mt_append (pv 3) (pa_cons (pe_ix ix_tup (pe_dget hu (pe_dget hu (pv 0) (pe_str) (fun _ _ => rfl)) (pv 4) (fun _ _ => rfl)) (pe_int) (fun _ _ => rfl)) pa_nil)))) pss_nil))))
      (pss_one (ps_ret (pv 3))))), ?_⟩
    obtain ⟨kvs, hk, hi⟩ := id x.rw
    have hks : kvs.map (·.1) = s.keys.map Sum.inl := by rw [hi.keys, kds_keys]; rfl
    have hkl : s.keys.length < 64 := by unfold LS.keys; rw [List.length_map]; exact hl
    have ee : (s.names par but).map D.str = s.keys.filterMap fun n => if (s.there (some n) && decide (some n ≠ but)) = true then (get s.rows n).bind fun r => if r.row.par = par then some (.str r.row.name) else none else none := by
      unfold LS.names
      rw [List.map_filterMap, fm_filter]
      refine fm_congr fun n _ => ?_
      by_cases c : (s.there (some n) && decide (some n ≠ but)) = true
      · rw [if_pos c, if_pos c]
        cases get s.rows n with
        | none => rfl
        | some r =>
          show Option.map D.str (if r.row.par = par then _ else _) = (if r.row.par = par then _ else _)
          by_cases c : r.row.par = par <;> simp [c]
      · rw [if_neg c, if_neg c]
    rw [ee]
    refine ret_collect (by decide) hk hks (by omega) _ (by simp) (by cases par <;> cases but <;> rfl) (fun od => s_rows (x.rd.lock hk) (ev_var rfl)) (fun od n hn => ?_) (fun od n hn y hy => ?_)
    · have xl := SRd.lock (od := od) hk x.rd
      obtain ⟨r, hr⟩ := skeys_row hn
      refine eb_is (eb_and (eb_B (s_there xl (ev_var rfl) (ev_var rfl))) fun _ => eb_and (eb_test (ev_op (ev_var rfl) (ev_var rfl) (op_neF rfl (oI_flat _) (oI_scal (some n) but)))) fun _ => eb_test (ev_op (s_par xl (ev_var rfl) (ev_var rfl) hr) (ev_var rfl) (op_eqF (oI_flat _) (oI_flat _) (oI_scal _ _)))) ?_
      rw [show (D.int n).val = (oI (some n)).val from rfl, oI_val, oI_val, hr]
      by_cases c1 : s.there (some n) = true <;> by_cases c2 : some n = but <;> by_cases c3 : r.row.par = par <;> simp [c1, c2, c3]
    · have xl := SRd.lock (od := od) hk x.rd
      obtain ⟨r, hr⟩ := skeys_row hn
      rw [hr] at hy
      split at hy
      · have hy' : (if r.row.par = par then some (D.str r.row.name) else none) = some y := hy
        split at hy'
        · cases hy'
          exact ⟨s_name xl (ev_var rfl) (ev_var rfl) hr, rfl⟩
        · cases hy'
      · cases hy
theorem s_names {K : PySem.W.Frag} {H : Hp} {q : Addr} {G : SFoot} {s : LS} {ds : List (Option D)} {ta t1 t2 : TE} {X : XK} {par but : Option Int} (x : SAt H q G s) (hl : s.rows.length < 64) (ho : EvD ta ds H (.obj q)) (h1 : EvD t1 ds H (oI par)) (h2 : EvD t2 ds H (oI but)) :
    EvD (tCall (sp_law_names K) [] X (tCons ta (tCons t1 (tCons t2 tNil)))) ds H (.lst ((s.names par but).map D.str)) := ev_call (ea_cons ho (ea_cons h1 (ea_cons h2 ea_nil))) (rsp_pr fun H' e => ⟨q, G, s, par, but, rfl, x.mono e, hl, rfl⟩)
/-! ### _law_used -/
def orE : Option Str → Str
  | some y => if ((y.length : Int) != 0) = true then y else ""
  | none => ""
theorem orE_len (t : Option Str) : ((orE t).length : Int) = match t with | some y => (y.length : Int) | none => 0 := by
  cases t with
  | none => rfl
  | some y =>
    show ((if ((y.length : Int) != 0) = true then y else "").length : Int) = y.length
    by_cases c : ((y.length : Int) != 0) = true
    · rw [if_pos c]
    · rw [if_neg c]
      have : (y.length : Int) = 0 := by simpa using c
      rw [this]
      rfl
theorem ev_orT {K : PySem.W.Frag} {ds : List (Option D)} {H : Hp} {ta tb : TE} {t : Option Str} (ht : ∀ y, t = some y → y.length ≤ 1000000) (ha : EvD ta ds H (oS t)) (hb : EvD tb ds H (.str "")) : EvD (tOrT K ta tb) ds H (.str (orE t)) := fun σ H1 e n Q k =>
  ha σ H1 e n _ fun v H2 e2 hv => by
    cases t with
    | none =>
      cases (show _ = _ from hv)
      exact ⟨false, rfl, iteF (hb σ H2 (e.trans e2) (n.mono e2) Q fun v H3 e3 hv => k v H3 (e2.trans e3) hv)⟩
    | some y =>
      cases (show _ = _ from hv)
      refine ⟨_, ⟨Nat.le_trans (ht y rfl) (by decide), rfl⟩, ?_⟩
      by_cases c : ((y.length : Int) != 0) = true
      · rw [c]
        refine iteT (k _ H2 e2 ?_)
        show V.str y = V.str (if ((y.length : Int) != 0) = true then y else "")
        rw [if_pos c]
      · have c' : ((y.length : Int) != 0) = false := by simpa using c
        rw [c']
        refine iteF (hb σ H2 (e.trans e2) (n.mono e2) Q fun v H3 e3 hv => k v H3 (e2.trans e3) ?_)
        cases (show _ = _ from hv)
        show V.str "" = V.str (if ((y.length : Int) != 0) = true then y else "")
        rw [if_neg c]
def txLen (t : Option Str) : Int := match t with
  | some y => y.length
  | none => 0
def LS.textsOk (s : LS) : Prop := ∀ n r x, get s.rows n = some r → r.row.text = some x → x.length ≤ 1000
def LS.signs (s : LS) (ns : List Int) : Int := (ns.filterMap fun n => (get s.rows n).map fun r => txLen r.row.text).sum
def LS.used (s : LS) : Int := s.signs s.keys
def sp_law_used (K : PySem.W.Frag) : Sp := rsp fun H as d => ∃ q G s, as = [.obj q] ∧ SAt H q G s ∧ s.rows.length < 64 ∧ s.textsOk ∧ d = .int s.used
theorem s_tlen {K : PySem.W.Frag} {H : Hp} {q : Addr} {G : SFoot} {s : LS} {ds : List (Option D)} {ta tn : TE} {n : Int} {r : LRow} (x : SRd H q G s) (ht : s.textsOk) (ho : EvD ta ds H (.obj q)) (hn : EvD tn ds H (.int n)) (hr : get s.rows n = some r) :
    EvD (tCB rLenStr (tCons (tOrT K (tOp (rIxT K) (tDGet (tDGet ta (tC (.str "rows"))) tn) (tC (.int 2))) (tC (.str ""))) tNil)) ds H (.int (txLen r.row.text)) := by
  have h1 : ∀ y, r.row.text = some y → y.length ≤ 1000000 := fun y hy => Nat.le_trans (ht n r y hr hy) (by decide)
  refine ev_is (ev_cb (ea_cons (ev_orT h1 (s_text x ho hn hr) ev_str) ea_nil) (cl_lenS ?_)) ?_
  · have := orE_len r.row.text
    cases e : r.row.text with
    | none => show (0 : Nat) ≤ _; omega
    | some y =>
      rw [e] at this
      have := h1 y e
      have q : ((orE (some y)).length : Int) = y.length := orE_len (some y)
      omega
  · rw [orE_len]
    rfl
theorem ok_law_used {P : Program} {w : World} {K : PySem.W.Frag} {mg : Str → Option Value} {base : Heap} (S : Says K mg) : Fk P w K mg base 1 (He.fAd K ("_law_used", none)) ["state"] (sp_law_used K) := by
  refine mk_r S.df_law_used sc_law_used ?_ (by decide) fun cdv A outer s0 H H0 E as d bd hp => ?_
  · rintro H as d ⟨q, G, s, rfl, _⟩
    rfl
  · obtain ⟨q, G, s, rfl, x, hl, ht, rfl⟩ := hp
    obtain ⟨hr, tk, px, hu, hu65⟩ := bd
    refine ⟨_, (pss_one (ps_ret (pe_callB (cr_sum rfl) (by rfl) S.free_sum (by decide +kernel) (pa_cons (pe_lock (pe_lc (own := [("one", 1)]) (g := (gName 1)) (tt := tYes) (te := (tCB rLenStr (tCons (tOrT K (tOp (rIxT K) (tDGet (tDGet (tVar 0) (tC (.str "rows"))) (tVar 1)) (tC (.int 2))) (tC (.str ""))) tNil))) rfl sc_law_used.nd (pi_keys (pe_dget hu (pv 0) (pe_str) (fun _ _ => rfl))) (blkOk_by (N := ["state", "one"]) (sc := defScope s_law_used) (by decide +kernel)) (fun _ _ _ _ _ => (pg_name (i := 1) sc_law_used.nd rfl (Or.inl rfl))) (fun _ _ _ _ _ => pts_nil) (fun _ _ _ _ _ => (pe_callB call_len_str (by rfl) S.free_len (by decide +kernel) (pa_cons (pe_orT (pe_ix ix_tup (pe_dget hu (pe_dget hu (pv 0) (pe_str) (fun _ _ => rfl)) (pv 1) (fun _ _ => rfl)) (pe_int) (fun _ _ => rfl)) (pe_one (pe_str))) pa_nil))))) pa_nil)))), ?_⟩
    obtain ⟨kvs, hk, hi⟩ := id x.rw
    have hks : kvs.map (·.1) = s.keys.map Sum.inl := by rw [hi.keys, kds_keys]; rfl
    have hkl : s.keys.length < 64 := by unfold LS.keys; rw [List.length_map]; exact hl
    refine ret_ret (ev_cb (ea_cons (ev_lock hk fun od => ?_) ea_nil) (cl_sum (ns := s.keys.filterMap fun n => (get s.rows n).map fun r => txLen r.row.text)))
    have xl := SRd.lock (od := od) hk x.rd
    rw [List.map_filterMap]
    refine ev_lcKI upd_same hks _ (s_rows xl (ev_var rfl)) (by omega) (fun n hn => ?_) (fun n hn y hy => ?_)
    · obtain ⟨r, hr⟩ := skeys_row hn
      refine eb_is eb_yes ?_
      rw [hr]
      rfl
    · obtain ⟨r, hr⟩ := skeys_row hn
      rw [hr] at hy
      cases hy
      exact ⟨s_tlen xl ht (ev_var rfl) (ev_var rfl) hr, rfl⟩
theorem s_used {K : PySem.W.Frag} {H : Hp} {q : Addr} {G : SFoot} {s : LS} {ds : List (Option D)} {ta : TE} {X : XK} (x : SAt H q G s) (hl : s.rows.length < 64) (ht : s.textsOk) (ho : EvD ta ds H (.obj q)) :
    EvD (tCall (sp_law_used K) [] X (tCons ta tNil)) ds H (.int s.used) := ev_call (ea_cons ho ea_nil) (rsp_pr fun H' e => ⟨q, G, s, rfl, x.mono e, hl, ht, rfl⟩)
/-! ### _law_begin -/
def LS.begin (keep room : Int) : LS := ⟨keep, room, [], [], [], 0, 0⟩
def sfp (q : Addr) (G : SFoot) : List Addr := [q, G.rows, G.casts, G.ties]
def sp_law_begin (K : PySem.W.Frag) : Sp := fun vs H Q _ => ∃ keep room, vs = [.int keep, .int room] ∧ ∀ q G H', SAt H' q G (LS.begin keep room) → Ex H H' → (∀ b ∈ sfp q G, H b = none) → Q (.ref q) H'
theorem ok_law_begin {P : Program} {w : World} {K : PySem.W.Frag} {mg : Str → Option Value} {base : Heap} (S : Says K mg) : Fk P w K mg base 1 (He.fAd K ("_law_begin", none)) ["keep", "room"] (sp_law_begin K) := by
  refine mk_fk S.df_law_begin sc_law_begin (fun vs H Q E h => ?_) fun cdv A outer s H vs Q E hr h => ?_
  · obtain ⟨keep, room, rfl, _⟩ := h
    rfl
  · obtain ⟨keep, room, rfl, k⟩ := h
    refine ⟨_, (pss_one (ps_ret (pe_disp (pps_cons (pe_str) (pv 0) (pps_cons (pe_str) (pv 1) (pps_cons (pe_str) (pe_dnewK) (pps_cons (pe_str) (pe_lst pa_nil) (pps_cons (pe_str) (pe_lst pa_nil) (pps_cons (pe_str) (pe_int) (pps_cons (pe_str) (pe_int) pps_nil))))))) (by rfl) (by rfl) (fun z => by cases z) (by decide)))), ?_⟩
    intro q hq
    refine ⟨_, rfl, _, rfl, fun d1 h1 => ?_⟩
    have n1 : q ≠ d1 := ne_of_none (H := upd H q _) upd_same h1
    refine ⟨by show 0 ≤ sizeLine; decide, fun d2 h2 => ?_⟩
    have n2 : q ≠ d2 := ne_of_none (o := .dK []) (by rw [upd_ne n1]; exact upd_same) h2
    have n12 : d1 ≠ d2 := ne_of_none (H := upd _ d1 _) upd_same h2
    refine ⟨by show 0 ≤ sizeLine; decide, fun d3 h3 => ?_⟩
    have n3 : q ≠ d3 := ne_of_none (o := .dK []) (by rw [upd_ne n2, upd_ne n1]; exact upd_same) h3
    have n23 : d2 ≠ d3 := ne_of_none (H := upd _ d2 _) upd_same h3
    have n13 : d1 ≠ d3 := ne_of_none (o := .dK []) (by rw [upd_ne n12]; exact upd_same) h3
    have g1 : H d1 = none := by
      have := h1
      rw [upd_ne n1.symm] at this
      exact this
    have g2 : H d2 = none := by
      have := h2
      rw [upd_ne n12.symm, upd_ne n2.symm] at this
      exact this
    have g3 : H d3 = none := by
      have := h3
      rw [upd_ne n23.symm, upd_ne n13.symm, upd_ne n3.symm] at this
      exact this
    refine ⟨by rw [upd_ne n3, upd_ne n2, upd_ne n1]; exact upd_same, [(.inr "keep", .int keep), (.inr "room", .int room), (.inr "rows", .ref d1), (.inr "casts", .ref d2), (.inr "ties", .ref d3), (.inr "day", .int 0), (.inr "count", .int 0)], rfl, by show 7 ≤ 15; decide, ?_⟩
    refine k q ⟨d1, d2, d3⟩ _ ⟨⟨_, upd_same, ?_⟩, ⟨[], ?_, rfl⟩, ⟨d2, [], rfl, ?_, rfl⟩, ⟨d3, [], rfl, ?_, rfl⟩, n1, n23⟩ (fun b o e => ?_) (fun b hb => ?_)
    · exact ⟨_, _, rfl, rfl, _, _, rfl, rfl, _, _, rfl, rfl, _, _, rfl, rfl, _, _, rfl, rfl, _, _, rfl, rfl, _, _, rfl, rfl, rfl⟩
    · simp only [upd_ne n1.symm, upd_ne n12, upd_ne n13, upd_same]
    · simp only [upd_ne n2.symm, upd_ne n23, upd_same]
    · simp only [upd_ne n3.symm, upd_same]
    · simp only [upd_ne (ne_of_none e hq), upd_ne (ne_of_none e g1), upd_ne (ne_of_none e g2), upd_ne (ne_of_none e g3)]
      exact e
    · simp only [sfp, List.mem_cons, List.not_mem_nil, or_false] at hb
      rcases hb with rfl | rfl | rfl | rfl
      · exact hq
      · exact g1
      · exact g2
      · exact g3
/-! ### _law_cell, _law_mix, _law_bounds, _law_cells -/
def cellOf (ns : List Int) (k : Int) : Int := ns.getD k.toNat 0
def sp_law_cell (K : PySem.W.Frag) : Sp := rsp fun H as d => ∃ a ns k, as = [.obj a, .int k] ∧ SqL K H a (ns.map V.int) ∧ 0 ≤ k ∧ d = .int (cellOf ns k)
theorem cl_lenSq {K : PySem.W.Frag} {H : Hp} {a : Addr} {xs : List V} (h : SqL K H a xs) : Cl (rLenSq K) H [.obj a] (.int xs.length) := fun H1 e vs hv Q q => by
  obtain ⟨v, r, rfl, hv, hr⟩ := hv
  cases (show _ = _ from hr)
  cases (show _ = _ from hv)
  exact ⟨a, xs, rfl, .inl (e.seq h), q _ _ (Same.refl _) rfl⟩
theorem op_ixSq {K : PySem.W.Frag} {H : Hp} {a : Addr} {ns : List Int} {i n : Nat} {m : Int} (h : SqL K H a (ns.map V.int)) (hm : ns[i]? = some m) : Op (rIxL K) H (.obj a) (.int (i : Int)) (.int m) := fun H1 e x y hx hy Q q => by
  cases (show _ = _ from hx)
  exact ⟨a, _, _, .int m, rfl, hy, e.seq h, atI_nat (by rw [List.getElem?_map, hm]; rfl), q _ _ (Same.refl _) rfl⟩
theorem ok_law_cell {P : Program} {w : World} {K : PySem.W.Frag} {mg : Str → Option Value} {base : Heap} (S : Says K mg) : Fk P w K mg base 1 (He.fAd K ("_law_cell", none)) ["script", "k"] (sp_law_cell K) := by
  refine mk_r S.df_law_cell sc_law_cell ?_ (by decide) fun cdv A outer s H H0 E as d bd hp => ?_
  · rintro H as d ⟨a, ns, k, rfl, _⟩
    rfl
  · obtain ⟨a, ns, k, rfl, hS, h0, rfl⟩ := hp
    obtain ⟨hr, tk, px, hu, hu65⟩ := bd
    refine ⟨_, (pss_cons (ps_if (pt_cmpR op_lt (pv 1) (pe_callB call_len_seq (by rfl) S.free_len (by decide +kernel) (pa_cons (pv 0) pa_nil)) (nomark _)) (pss_one (ps_ret (pe_ix ix_list (pv 0) (pv 1) (fun _ _ => rfl)))) pss_nil)
      (pss_one (ps_ret (pe_int)))), ?_⟩
    refine ret_when (eb_test (ev_op (ev_var rfl) (ev_cb (ea_cons (ev_var rfl) ea_nil) (cl_lenSq hS)) (op_I0 (d := .bl (decide (k < ((ns.map V.int).length : Int)))) fun _ => rfl))) (fun c => ?_) (fun c => ?_)
    · rw [List.length_map] at c
      have c' : k < (ns.length : Int) := by simpa using c
      have hk : k.toNat < ns.length := by omega
      have hm : ns[k.toNat]? = some ns[k.toNat] := List.getElem?_eq_getElem hk
      have ek : (k.toNat : Int) = k := Int.toNat_of_nonneg h0
      refine ret_ret (ev_is (ev_op (ev_var rfl) (ev_is (ev_var (d := .int k) rfl) (by rw [ek])) (op_ixSq (n := 0) hS hm)) ?_)
      unfold cellOf
      rw [List.getD_eq_getElem?_getD, hm]
      rfl
    · rw [List.length_map] at c
      have c' : ¬ k < (ns.length : Int) := by simpa using c
      refine ret_ret (ev_is ev_int ?_)
      unfold cellOf
      rw [List.getD_eq_getElem?_getD, List.getElem?_eq_none (by omega)]
      rfl
theorem s_cell {K : PySem.W.Frag} {H : Hp} {a : Addr} {ns : List Int} {k : Int} {ds : List (Option D)} {ta tn : TE} {X : XK} (hS : SqL K H a (ns.map V.int)) (h0 : 0 ≤ k) (ho : EvD ta ds H (.obj a)) (hn : EvD tn ds H (.int k)) : EvD (tCall (sp_law_cell K) [] X (tCons ta (tCons tn tNil))) ds H (.int (cellOf ns k)) :=
  ev_call (ea_cons ho (ea_cons hn ea_nil)) (rsp_pr fun H' e => ⟨a, ns, k, rfl, e.seq hS, h0, rfl⟩)
def mixV (c p m : Int) : Int := c * 48271 % p * (c * 48271 % p + 7) % p % m
def sp_law_mix (K : PySem.W.Frag) : Sp := rsp fun H as d => ∃ c p m, as = [.int c, .int p, .int m] ∧ 0 < p ∧ p < 1000000 ∧ 0 < m ∧ d = .int (mixV c p m)
theorem ok_law_mix {P : Program} {w : World} {K : PySem.W.Frag} {mg : Str → Option Value} {base : Heap} (S : Says K mg) : Fk P w K mg base 1 (He.fAd K ("_law_mix", none)) ["cell", "prime", "many"] (sp_law_mix K) := by
  refine mk_r S.df_law_mix sc_law_mix ?_ (by decide) fun cdv A outer s H H0 E as d bd hp => ?_
  · rintro H as d ⟨c, p, m, rfl, _⟩
    rfl
  · obtain ⟨c, p, m, rfl, h0, h1, h2, rfl⟩ := hp
    obtain ⟨hr, tk, px, hu, hu65⟩ := bd
    refine ⟨_, (pss_one (ps_ret (pe_op op_mod (pe_op op_mod (pe_op op_mul (pe_op op_mod (pe_op op_mul (pv 0) (pe_int)) (pv 1)) (pe_op op_add (pe_op op_mod (pe_op op_mul (pv 0) (pe_int)) (pv 1)) (pe_int))) (pv 1)) (pv 2)))), ?_⟩
    have e1 : ∀ {ds : List (Option D)} (_ : ds[0]? = some (some (.int c))) (_ : ds[1]? = some (some (.int p))), EvD (tOp rModI (tOp rMulI (tVar 0) (tC (.int 48271))) (tVar 1)) ds H (.int (c * 48271 % p)) := fun {ds} i0 i1 =>
      ev_op (ev_op (ev_var i0) ev_int (op_mulI (.inr ⟨by decide, by decide⟩))) (ev_var i1) (op_modI h0)
    have b0 : 0 ≤ c * 48271 % p := Int.emod_nonneg _ (by omega)
    have b1 : c * 48271 % p < p := Int.emod_lt_of_pos _ h0
    exact ret_ret (ev_op (ev_op (ev_op (e1 rfl rfl) (ev_op (e1 rfl rfl) ev_int op_addI) (op_mulI (.inl ⟨by omega, by omega⟩))) (ev_var rfl) (op_modI h0)) (ev_var rfl) (op_modI h2))
theorem s_mix {K : PySem.W.Frag} {H : Hp} {c p m : Int} {ds : List (Option D)} {t1 t2 t3 : TE} {X : XK} (h1 : EvD t1 ds H (.int c)) (h2 : EvD t2 ds H (.int p)) (h3 : EvD t3 ds H (.int m)) (p0 : 0 < p) (p1 : p < 1000000) (m0 : 0 < m) : EvD (tCall (sp_law_mix K) [] X (tCons t1 (tCons t2 (tCons t3 tNil)))) ds H (.int (mixV c p m)) :=
  ev_call (ea_cons h1 (ea_cons h2 (ea_cons h3 ea_nil))) (rsp_pr fun H' e => ⟨c, p, m, rfl, p0, p1, m0, rfl⟩)
theorem mix_ge (c p m : Int) (h : 0 < m) : 0 ≤ mixV c p m := Int.emod_nonneg _ (by omega)
theorem mix_lt (c p m : Int) (h : 0 < m) : mixV c p m < m := Int.emod_lt_of_pos _ h
end Cs
set_option Elab.async false
set_option linter.all false
set_option maxRecDepth 100000
set_option maxHeartbeats 4000000
namespace Cs
open PySem PySem.Spec PyProof.Rows L2
section
variable {K : PySem.W.Frag} {ds : List (Option D)} {H : Hp} {ta te to : TE} {tt : TT} {j : Nat} {tr : TA}
/-- over range(n) -/
theorem ev_lcR {n : Int} (g : Nat → Option D) (hl : EvA tr ds H [.int n]) (h0 : 0 ≤ n) (h1 : n ≤ 100000) (ht : ∀ i : Nat, (i : Int) < n → EvB tt (ds.set j (some (.int (i : Int)))) H (g i).isSome)
    (he : ∀ i : Nat, (i : Int) < n → ∀ y, g i = some y → EvD te (ds.set j (some (.int (i : Int)))) H y ∧ y.pure = true) : EvD (tLc (iRng1 tr) (gName j) tt te [j]) ds H (.lst ((List.range n.toNat).filterMap g)) := fun σ H0 e nn Q q =>
  hl σ H0 e nn _ fun vs H1 e1 hv => by
    obtain ⟨v, r, rfl, hv, hr⟩ := hv
    cases (show _ = _ from hr)
    cases (show _ = _ from hv)
    refine ⟨n, rfl, by omega, by omega, fun p hp => lc_range (lo := 0) (n := n.toNat) (fun i H' => Acc H1 p ((List.range i).filterMap g) H') (Acc.zero hp) (fun i H' hi A => ?_) fun H' A => ?_⟩
    · rw [Int.zero_add]
      refine ⟨by simp [wipe], ?_⟩
      have hs : (List.range (i + 1)).filterMap g = (List.range i).filterMap g ++ (g i).toList := by
        rw [List.range_succ, List.filterMap_append]
        cases e : g i <;> simp [e]
      rw [hs]
      refine lc_turn (ds2 := ds.set j (some (.int (i : Int)))) (H0 := H) (e.trans e1) A ?_ ?_ (ht i (by omega)) (he i (by omega))
      · simp only [wipe, List.set_set]
        exact ((nn.mono e1).mono A.2.1).set (d := .int (i : Int)) (v := .int (i : Int)) rfl j
      · have := filterMap_len g (List.range i)
        rw [List.length_range] at this
        omega
    · obtain ⟨_, ex, acc, c, d, _⟩ := A
      exact q _ H' (e1.trans ex) ⟨p, acc, rfl, c, d⟩
theorem eb_truL {xs : List D} (h : EvD ta ds H (.lst xs)) : EvB (tTru K ta) ds H (!xs.isEmpty) := fun σ H1 e n Q k => h σ H1 e n _ fun v H2 e2 hv => by
  obtain ⟨p, vs, rfl, hp, hl⟩ := hv
  refine ⟨!vs.isEmpty, .inl ⟨vs, SqL.of hp, rfl⟩, ?_⟩
  have : vs.isEmpty = xs.isEmpty := by
    have := hl.len
    cases vs <;> cases xs <;> first | rfl | cases this
  rw [this]
  exact k H2 e2
theorem eb_truT {xs : List D} (h : EvD ta ds H (.tup xs)) : EvB (tTru K ta) ds H (!xs.isEmpty) := fun σ H1 e n Q k => h σ H1 e n _ fun v H2 e2 hv => by
  obtain ⟨p, vs, rfl, hp, hl⟩ := hv
  refine ⟨!vs.isEmpty, .inr (.inl ⟨vs, SqT.of hp, rfl⟩), ?_⟩
  have : vs.isEmpty = xs.isEmpty := by
    have := hl.len
    cases vs <;> cases xs <;> first | rfl | cases this
  rw [this]
  exact k H2 e2
theorem op_ixTi {xs : List D} {m : Int} {d : D} (h0 : 0 ≤ m) (h : xs[m.toNat]? = some d) : Op (rIxT K) H (.tup xs) (.int m) d := by
  have := op_ixT (K := K) (H := H) (i := m.toNat) h
  rw [Int.toNat_of_nonneg h0] at this
  exact this
theorem op_ixLi {xs : List D} {m : Int} {d : D} (h0 : 0 ≤ m) (h : xs[m.toNat]? = some d) : Op (rIxL K) H (.lst xs) (.int m) d := by
  have := op_ixL (K := K) (H := H) (i := m.toNat) h
  rw [Int.toNat_of_nonneg h0] at this
  exact this
theorem op_ixS {z : Str} {m : Int} {c : Nat} (hz : z.length ≤ 1000) (h0 : 0 ≤ m) (h : z.cps.toList[m.toNat]? = some c) : Op rIxS H (.str z) (.int m) (.str ⟨#[c]⟩) := fun H1 e x y hx hy Q k => by
  cases (show _ = _ from hx)
  cases (show _ = _ from hy)
  refine ⟨z, m, c, rfl, rfl, Nat.le_trans hz (by decide), ?_, k _ H1 (Same.refl _) rfl⟩
  have := atI_nat h
  rw [Int.toNat_of_nonneg h0] at this
  exact this
theorem ev_join {a : Str} {ys : List Str} (ho : EvD to ds H (.str a)) (he : EvD te ds H (.lst (ys.map D.str))) (hz : (ys.map (·.length)).sum + ys.length * a.length ≤ 16777216) :
    EvD (tM1 (fun x xs H Q => ∃ a p, ∃ ys : List Str, x = .str a ∧ xs = [.ref p] ∧ (SqL K H p (ys.map V.str) ∨ SqT K H p (ys.map V.str)) ∧ (ys.map (·.length)).sum + ys.length * a.length ≤ 16777216 ∧ Q (.str (Txt.join a ys)) H) to te) ds H (.str (Txt.join a ys)) := fun σ H1 e n Q k =>
  ho σ H1 e n _ fun v H2 e2 hv => ⟨⟨a, hv⟩, he σ H2 (e.trans e2) (n.mono e2) _ fun u H3 e3 hu => by
    obtain ⟨p, us, rfl, hp, hl⟩ := hu
    have hus : us = ys.map V.str := by rw [hl.flat_eq (strs_flat ys), strs_val]
    rw [hus] at hp
    exact ⟨a, p, ys, hv, rfl, .inl (SqL.of hp), hz, k _ H3 (e2.trans e3) rfl⟩⟩
end
/-! ### _law_bounds, _law_cells -/
def boundsV (c : Int) : Int × Int := (1 + mixV c 9859 9, 5 + mixV c 9857 36)
def sp_law_bounds (K : PySem.W.Frag) : Sp := rsp fun H as d => ∃ c, as = [.int c] ∧ d = pairD (boundsV c)
def cellsV (ns : List Int) (first many : Int) : List Int := (List.range many.toNat).map fun (t : Nat) => cellOf ns (first + (t : Int) % 7) + 41 * (t : Int) + first
def sp_law_cells (K : PySem.W.Frag) : Sp := rsp fun H as d => ∃ a ns f m, as = [.obj a, .int f, .int m] ∧ SqL K H a (ns.map V.int) ∧ 0 ≤ f ∧ 0 ≤ m ∧ m ≤ 100000 ∧ d = .lst ((cellsV ns f m).map D.int)
theorem ok_law_cells {P : Program} {w : World} {K : PySem.W.Frag} {mg : Str → Option Value} {base : Heap} (S : Says K mg) : Fk P w K mg base 2 (He.fAd K ("_law_cells", none)) ["script", "first", "many"] (sp_law_cells K) := by
  have G_law_cell := ok_law_cell (P := P) (w := w) (base := base) S
  refine mk_r S.df_law_cells sc_law_cells ?_ (by decide) fun cdv A outer s H H0 E as d bd hp => ?_
  · rintro H as d ⟨a, ns, f, m, rfl, _⟩
    rfl
  · obtain ⟨a, ns, f, m, rfl, hS, hf, h0, h1, rfl⟩ := hp
    obtain ⟨hr, tk, px, hu, hu65⟩ := bd
    refine ⟨_, (pss_one (ps_ret (pe_lc (own := [("turn", 3)]) (g := (gName 3)) (tt := tYes) (te := (tOp rAddI (tOp rAddI (tCall (sp_law_cell K) [] E0 (tCons (tVar 0) (tCons (tOp rAddI (tVar 1) (tOp rModI (tVar 3) (tC (.int 7)))) tNil))) (tOp rMulI (tC (.int 41)) (tVar 3))) (tVar 1))) rfl sc_law_cells.nd (pi_range1 (by rfl) S.free_range (pa_cons (pv 2) pa_nil)) (blkOk_by (N := ["script", "first", "many", "turn"]) (sc := defScope s_law_cells) (by decide +kernel)) (fun _ _ _ _ _ => (pg_name (i := 3) sc_law_cells.nd rfl (Or.inl rfl))) (fun _ _ _ _ _ => pts_nil) (fun _ _ _ _ _ => (pe_op op_add (pe_op op_add (pe_cf G_law_cell (hr.mono (by decide)) (by rfl) S.glo__law_cell passL (pa_cons (pv 0) (pa_cons (pe_op op_add (pv 1) (pe_op op_mod (pv 3) (pe_int))) pa_nil))) (pe_op op_mul (pe_int) (pv 3))) (pv 1)))))), ?_⟩
    have ee : (cellsV ns f m).map D.int = (List.range m.toNat).filterMap fun (t : Nat) => some (D.int (cellOf ns (f + (t : Int) % 7) + 41 * (t : Int) + f)) := by
      unfold cellsV
      rw [List.map_map, ← List.filterMap_eq_map]
      rfl
    rw [ee]
    refine ret_ret (ev_lcR _ (ea_cons (ev_var rfl) ea_nil) h0 h1 (fun i hi => eb_yes) (fun i hi y hy => ?_))
    cases hy
    refine ⟨ev_op (ev_op (s_cell hS ?_ (ev_var rfl) (ev_op (ev_var rfl) (ev_op (ev_var rfl) ev_int (op_modI (by decide))) op_addI)) (ev_op ev_int (ev_var rfl) (op_mulI (.inl ⟨by decide, by decide⟩))) op_addI) (ev_var rfl) op_addI, rfl⟩
    omega
/-! ### _law_letters -/
def signV (m : Int) : Str := ⟨#[97 + m.toNat]⟩
def lettersV (c m : Int) : Str := Txt.join "" ((List.range m.toNat).map fun (k : Nat) => signV (mixV (c + 7 * (k : Int)) 9829 26))
theorem abc_at : ∀ m : Nat, m < 26 → ("abcdefghijklmnopqrstuvwxyz" : Str).cps.toList[m]? = some (97 + m) := by decide +kernel
theorem joinL_nil : ∀ ps : List (List Nat), (TL.joinL [] ps).length = (ps.map (·.length)).sum
  | [] => rfl
  | [p] => by simp [TL.joinL]
  | p :: q :: r => by
    have ih := joinL_nil (q :: r)
    show (p ++ ([] ++ TL.joinL [] (q :: r))).length = _
    rw [List.nil_append, List.length_append, ih]
    simp
theorem letters_len (c m : Int) : (lettersV c m).length = m.toNat := by
  unfold lettersV
  rw [TL.join_eq]
  have h := congrArg List.length (TL.tl_join "" ((List.range m.toNat).map fun (k : Nat) => signV (mixV (c + 7 * (k : Int)) 9829 26)))
  have e0 : TL.tl ("" : Str) = [] := by decide +kernel
  rw [e0, joinL_nil, List.map_map, List.map_map] at h
  have e1 : (List.map (((fun x => List.length x) ∘ TL.tl) ∘ fun (k : Nat) => signV (mixV (c + 7 * (k : Int)) 9829 26)) (List.range m.toNat)) = List.replicate m.toNat 1 := by
    rw [List.eq_replicate_iff]
    refine ⟨by simp, fun b hb => ?_⟩
    obtain ⟨k, _, rfl⟩ := List.mem_map.mp hb
    rfl
  rw [e1] at h
  have e2 : (List.replicate m.toNat 1).sum = m.toNat := by
    simp
  rw [e2] at h
  exact h
def sp_law_letters (K : PySem.W.Frag) : Sp := rsp fun H as d => ∃ c m, as = [.int c, .int m] ∧ 0 ≤ m ∧ m ≤ 1000 ∧ d = .str (lettersV c m)
theorem ok_law_letters {P : Program} {w : World} {K : PySem.W.Frag} {mg : Str → Option Value} {base : Heap} (S : Says K mg) : Fk P w K mg base 2 (He.fAd K ("_law_letters", none)) ["cell", "many"] (sp_law_letters K) := by
  have G_law_mix := ok_law_mix (P := P) (w := w) (base := base) S
  refine mk_r S.df_law_letters sc_law_letters ?_ (by decide) fun cdv A outer s H H0 E as d bd hp => ?_
  · rintro H as d ⟨c, m, rfl, _⟩
    rfl
  · obtain ⟨c, m, rfl, h0, h1, rfl⟩ := hp
    obtain ⟨hr, tk, px, hu, hu65⟩ := bd
    refine ⟨_, (pss_cons (ps_set (i := 2) sc_law_letters.nd rfl (Or.inr rfl) (pe_str))
      (pss_one (ps_ret (pe_join (pe_str) (pe_lc (own := [("k", 3)]) (g := (gName 3)) (tt := tYes) (te := (tOp rIxS (tVar 2) (tCall (sp_law_mix K) [] E0 (tCons (tOp rAddI (tVar 0) (tOp rMulI (tC (.int 7)) (tVar 3))) (tCons (tC (.int 9829)) (tCons (tC (.int 26)) tNil)))))) rfl sc_law_letters.nd (pi_range1 (by rfl) S.free_range (pa_cons (pv 1) pa_nil)) (blkOk_by (N := ["cell", "many", "letters", "k"]) (sc := defScope s_law_letters) (by decide +kernel)) (fun _ _ _ _ _ => (pg_name (i := 3) sc_law_letters.nd rfl (Or.inl rfl))) (fun _ _ _ _ _ => pts_nil) (fun _ _ _ _ _ => (pe_ix ix_str (pv 2) (pe_cf G_law_mix (hr.mono (by decide)) (by rfl) S.glo__law_mix passL (pa_cons (pe_op op_add (pv 0) (pe_op op_mul (pe_int) (pv 3))) (pa_cons (pe_int) (pa_cons (pe_int) pa_nil)))) (fun _ _ => rfl)))))))), ?_⟩
    refine ret_asg ev_str (ret_ret (ev_join ev_str ?_ ?_))
    · have ee : ((List.range m.toNat).map fun (k : Nat) => signV (mixV (c + 7 * (k : Int)) 9829 26)).map D.str = (List.range m.toNat).filterMap fun (k : Nat) => some (D.str (signV (mixV (c + 7 * (k : Int)) 9829 26))) := by
        rw [List.map_map, ← List.filterMap_eq_map]
        rfl
      rw [ee]
      refine ev_lcR _ (ea_cons (ev_var rfl) ea_nil) h0 (by omega) (fun i hi => eb_yes) (fun i hi y hy => ?_)
      cases hy
      have b0 := mix_ge (c + 7 * (i : Int)) 9829 26 (by decide)
      have b1 := mix_lt (c + 7 * (i : Int)) 9829 26 (by decide)
      exact ⟨ev_op (ev_var rfl) (s_mix (ev_op (ev_var rfl) (ev_op ev_int (ev_var rfl) (op_mulI (.inl ⟨by decide, by decide⟩))) op_addI) ev_int ev_int (by decide) (by decide) (by decide)) (op_ixS (by decide +kernel) b0 (abc_at _ (by omega))), rfl⟩
    · rw [List.map_map, List.length_map, List.length_range]
      have e1 : (List.map ((fun x => Str.length x) ∘ fun (k : Nat) => signV (mixV (c + 7 * (k : Int)) 9829 26)) (List.range m.toNat)) = List.replicate m.toNat 1 := by
        rw [List.eq_replicate_iff]
        refine ⟨by simp, fun b hb => ?_⟩
        obtain ⟨k, _, rfl⟩ := List.mem_map.mp hb
        rfl
      rw [e1]
      have e2 : (List.replicate m.toNat 1).sum = m.toNat := by simp
      have e3 : ("" : Str).length = 0 := by decide +kernel
      rw [e2, e3]
      omega
theorem s_letters {K : PySem.W.Frag} {H : Hp} {c m : Int} {ds : List (Option D)} {t1 t2 : TE} {X : XK} (h1 : EvD t1 ds H (.int c)) (h2 : EvD t2 ds H (.int m)) (m0 : 0 ≤ m) (m1 : m ≤ 1000) : EvD (tCall (sp_law_letters K) [] X (tCons t1 (tCons t2 tNil))) ds H (.str (lettersV c m)) :=
  ev_call (ea_cons h1 (ea_cons h2 ea_nil)) (rsp_pr fun H' e => ⟨c, m, rfl, m0, m1, rfl⟩)
/-! ### _law_number, _law_parent -/
def LS.thereL (s : LS) : List Int := (sortI s.keys).filter fun n => s.there (some n)
def LS.numberV (s : LS) (c : Int) : Int := if (!s.thereL.isEmpty && decide (0 < mixV c 9973 6)) = true then s.thereL.getD (mixV c 9967 s.thereL.length).toNat 0 else mixV c 9949 (s.count + 3)
def sp_law_number (K : PySem.W.Frag) : Sp := rsp fun H as d => ∃ c q G s, as = [.int c, .obj q] ∧ SRd H q G s ∧ s.rows.length < 64 ∧ 0 ≤ s.count ∧ d = .int (s.numberV c)
theorem s_sortedRows {H : Hp} {q : Addr} {G : SFoot} {s : LS} {ds : List (Option D)} {ta : TE} (x : SRd H q G s) (hl : s.rows.length < 64) (ho : EvD ta ds H (.obj q)) : EvD (tCB rSortDI (tCons (tDGet ta (tC (.str "rows"))) tNil)) ds H (.lst ((sortI s.keys).map D.int)) :=
  ev_cb (ea_cons (s_rows x ho) ea_nil) (cl_sortedDI x.rw kds_keys (by show (s.rows.map (·.1)).length < 64; rw [List.length_map]; exact hl))
theorem skeys_len {s : LS} : (sortI s.keys).length = s.rows.length := by rw [sortI_len]; simp [LS.keys]
theorem ints_getD {ns : List Int} {m : Int} (h : m.toNat < ns.length) : (ns.map D.int)[m.toNat]? = some (.int (ns.getD m.toNat 0)) := by
  rw [List.getElem?_map, List.getD_eq_getElem?_getD, List.getElem?_eq_getElem h]
  rfl
theorem ok_law_number {P : Program} {w : World} {K : PySem.W.Frag} {mg : Str → Option Value} {base : Heap} (S : Says K mg) : Fk P w K mg base 2 (He.fAd K ("_law_number", none)) ["cell", "state"] (sp_law_number K) := by
  have G_law_mix := ok_law_mix (P := P) (w := w) (base := base) S
  have G_law_there := ok_law_there (P := P) (w := w) (base := base) S
  refine mk_r S.df_law_number sc_law_number ?_ (by decide) fun cdv A outer s0 H H0 E as d bd hp => ?_
  · rintro H as d ⟨c, q, G, s, rfl, _⟩
    rfl
  · obtain ⟨c, q, G, s, rfl, x, hl, hc, rfl⟩ := hp
    obtain ⟨hr, tk, px, hu, hu65⟩ := bd
    refine ⟨_, (pss_cons (ps_setLc (i := 2) (own := [("one", 3)]) (g := (gName 3)) (tt := (tB (tCall (sp_law_there K) [] E0 (tCons (tVar 1) (tCons (tVar 3) tNil))))) (te := (tVar 3)) rfl sc_law_number.nd rfl rfl (sw_true rfl rfl rfl (by decide +kernel)) (pi_list (pe_callB (call_sortedDI rfl) (by rfl) S.free_sorted (by decide +kernel) (pa_cons (pe_dget hu (pv 1) (pe_str) (fun _ _ => rfl)) pa_nil))) (blkOk_by (N := ["cell", "state", "there", "one"]) (sc := defScope s_law_number) (by decide +kernel)) (fun _ _ _ _ _ => (pg_name (i := 3) sc_law_number.nd rfl (Or.inl rfl))) (fun _ _ _ _ _ => (pts_one (pt_val (pe_cf G_law_there (hr.mono (by decide)) (by rfl) S.glo__law_there passL (pa_cons (pv 1) (pa_cons (pv 3) pa_nil)))))) (fun _ _ _ _ _ => (pv 3)))
      (pss_cons (ps_if (PW.pt (pw_and (pt_truth (pv 2) (by intro _; rfl)) (pw_and1 (pt_cmpR op_gt (pe_cf G_law_mix (hr.mono (by decide)) (by rfl) S.glo__law_mix px (pa_cons (pv 0) (pa_cons (pe_int) (pa_cons (pe_int) pa_nil)))) (pe_int) (nomark _))))) (pss_one (ps_ret (pe_ix ix_list (pv 2) (pe_cf G_law_mix (hr.mono (by decide)) (by rfl) S.glo__law_mix px (pa_cons (pv 0) (pa_cons (pe_int) (pa_cons (pe_callB call_len_seq (by rfl) S.free_len (by decide +kernel) (pa_cons (pv 2) pa_nil)) pa_nil)))) (fun _ _ => rfl)))) pss_nil)
      (pss_one (ps_ret (pe_cf G_law_mix (hr.mono (by decide)) (by rfl) S.glo__law_mix px (pa_cons (pv 0) (pa_cons (pe_int) (pa_cons (pe_op op_add (pe_dget hu (pv 1) (pe_str) (fun _ _ => rfl)) (pe_int)) pa_nil)))))))), ?_⟩
    refine ret_asg (x := .lst (s.thereL.map D.int)) ?_ ?_
    · unfold LS.thereL
      rw [← filterMap_if]
      refine ev_lcLI _ (s_sortedRows x hl (ev_var rfl)) (by rw [skeys_len]; omega) (fun n hn => ?_) (fun n hn y hy => ?_)
      · refine eb_is (eb_B (s_there x (ev_var rfl) (ev_var rfl))) ?_
        rw [isSome_if]
      · split at hy
        · cases hy
          exact ⟨ev_var rfl, rfl⟩
        · cases hy
    · refine ret_when (b := !s.thereL.isEmpty && decide (0 < mixV c 9973 6)) ?_ (fun q => ?_) (fun q => ?_)
      · refine eb_is (eb_and (eb_truL (xs := s.thereL.map D.int) (ev_var rfl)) fun _ => eb_test (ev_op (s_mix (ev_var rfl) ev_int ev_int (by decide) (by decide) (by decide)) ev_int op_gtI)) ?_
        rw [List.isEmpty_map]
      · have hne : 0 < (s.thereL.length : Int) := by
          cases e : s.thereL with
          | nil => rw [e] at q; simp at q
          | cons a r => simp only [List.length_cons]; omega
        have b0 := mix_ge c 9967 s.thereL.length hne
        have b1 := mix_lt c 9967 s.thereL.length hne
        refine ret_ret (ev_is (ev_op (ev_var rfl) (s_mix (ev_var rfl) ev_int (ev_is (ev_cb (ea_cons (ev_var rfl) ea_nil) (cl_lenL (xs := s.thereL.map D.int))) (by rw [List.length_map])) (by decide) (by decide) hne) (op_ixLi b0 (ints_getD (by omega)))) ?_)
        unfold LS.numberV
        rw [if_pos q]
      · refine ret_ret (ev_is (s_mix (ev_var rfl) ev_int (ev_op (s_count x (ev_var rfl)) ev_int op_addI) (by decide) (by decide) (by omega)) ?_)
        unfold LS.numberV
        rw [if_neg (by rw [q]; decide)]
theorem s_number {K : PySem.W.Frag} {H : Hp} {c : Int} {q : Addr} {G : SFoot} {s : LS} {ds : List (Option D)} {t1 t2 : TE} {X : XK} (x : SRd H q G s) (hl : s.rows.length < 64) (hc : 0 ≤ s.count) (h1 : EvD t1 ds H (.int c)) (h2 : EvD t2 ds H (.obj q)) : EvD (tCall (sp_law_number K) [] X (tCons t1 (tCons t2 tNil))) ds H (.int (s.numberV c)) :=
  ev_call (ea_cons h1 (ea_cons h2 ea_nil)) (rsp_pr fun H' e => ⟨c, q, G, s, rfl, x.mono e, hl, hc, rfl⟩)
def LS.boxes (s : LS) : List Int := (sortI s.keys).filter fun n => s.there (some n) && !isSheet ((get s.rows n).map LRow.row)
def LS.parentV (s : LS) (c : Int) : Option Int := if (!s.boxes.isEmpty && decide (0 < mixV c 9941 3)) = true then some (s.boxes.getD (mixV c 9931 s.boxes.length).toNat 0) else ([none, none, none, some (s.numberV c)] : List (Option Int)).getD (mixV c 9929 4).toNat none
def sp_law_parent (K : PySem.W.Frag) : Sp := rsp fun H as d => ∃ c q G s, as = [.int c, .obj q] ∧ SRd H q G s ∧ s.rows.length < 64 ∧ 0 ≤ s.count ∧ d = oI (s.parentV c)
theorem ok_law_parent {P : Program} {w : World} {K : PySem.W.Frag} {mg : Str → Option Value} {base : Heap} (S : Says K mg) : Fk P w K mg base 3 (He.fAd K ("_law_parent", none)) ["cell", "state"] (sp_law_parent K) := by
  have G_law_number := ok_law_number (P := P) (w := w) (base := base) S
  have G_law_mix := ok_law_mix (P := P) (w := w) (base := base) S
  have G_law_there := ok_law_there (P := P) (w := w) (base := base) S
  refine mk_r S.df_law_parent sc_law_parent ?_ (by decide) fun cdv A outer s0 H H0 E as d bd hp => ?_
  · rintro H as d ⟨c, q, G, s, rfl, _⟩
    rfl
  · obtain ⟨c, q, G, s, rfl, x, hl, hc, rfl⟩ := hp
    obtain ⟨hr, tk, px, hu, hu65⟩ := bd
    refine ⟨_, (pss_cons (ps_setLc (i := 2) (own := [("one", 3)]) (g := (gName 3)) (tt := (tAnd (tB (tCall (sp_law_there K) [] E0 (tCons (tVar 1) (tCons (tVar 3) tNil)))) (tB (tIsN (tOp (rIxT K) (tDGet (tDGet (tVar 1) (tC (.str "rows"))) (tVar 3)) (tC (.int 2))))))) (te := (tVar 3)) rfl sc_law_parent.nd rfl rfl (sw_true rfl rfl rfl (by decide +kernel)) (pi_list (pe_callB (call_sortedDI rfl) (by rfl) S.free_sorted (by decide +kernel) (pa_cons (pe_dget hu (pv 1) (pe_str) (fun _ _ => rfl)) pa_nil))) (blkOk_by (N := ["cell", "state", "boxes", "one"]) (sc := defScope s_law_parent) (by decide +kernel)) (fun _ _ _ _ _ => (pg_name (i := 3) sc_law_parent.nd rfl (Or.inl rfl))) (fun _ _ _ _ _ => (pts_one (PW.pt (pw_and (pt_val (pe_cf G_law_there (hr.mono (by decide)) (by rfl) S.glo__law_there passL (pa_cons (pv 1) (pa_cons (pv 3) pa_nil)))) (pw_and1 (pt_cmp (pc_isN (pe_ix ix_tup (pe_dget hu (pe_dget hu (pv 1) (pe_str) (fun _ _ => rfl)) (pv 3) (fun _ _ => rfl)) (pe_int) (fun _ _ => rfl))))))))) (fun _ _ _ _ _ => (pv 3)))
      (pss_cons (ps_if (PW.pt (pw_and (pt_truth (pv 2) (by intro _; rfl)) (pw_and1 (pt_cmpR op_gt (pe_cf G_law_mix (hr.mono (by decide)) (by rfl) S.glo__law_mix px (pa_cons (pv 0) (pa_cons (pe_int) (pa_cons (pe_int) pa_nil)))) (pe_int) (nomark _))))) (pss_one (ps_ret (pe_ix ix_list (pv 2) (pe_cf G_law_mix (hr.mono (by decide)) (by rfl) S.glo__law_mix px (pa_cons (pv 0) (pa_cons (pe_int) (pa_cons (pe_callB call_len_seq (by rfl) S.free_len (by decide +kernel) (pa_cons (pv 2) pa_nil)) pa_nil)))) (fun _ _ => rfl)))) pss_nil)
      (pss_one (ps_ret (pe_ix ix_tup (pe_tup (pa_cons (pe_non) (pa_cons (pe_non) (pa_cons (pe_non) (pa_cons (pe_cf G_law_number (hr.mono (by decide)) (by rfl) S.glo__law_number px (pa_cons (pv 0) (pa_cons (pv 1) pa_nil))) pa_nil))))) (pe_cf G_law_mix (hr.mono (by decide)) (by rfl) S.glo__law_mix px (pa_cons (pv 0) (pa_cons (pe_int) (pa_cons (pe_int) pa_nil)))) (fun _ _ => rfl)))))), ?_⟩
    refine ret_asg (x := .lst (s.boxes.map D.int)) ?_ ?_
    · unfold LS.boxes
      rw [← filterMap_if]
      refine ev_lcLI _ (s_sortedRows x hl (ev_var rfl)) (by rw [skeys_len]; omega) (fun n hn => ?_) (fun n hn y hy => ?_)
      · obtain ⟨r, hr⟩ := skeys_row (mem_sortI.mp hn)
        refine eb_is (eb_and (eb_B (s_there x (ev_var rfl) (ev_var rfl))) fun _ => eb_B (ev_isN (s_text x (ev_var rfl) (ev_var rfl) hr) (notN_oS _))) ?_
        rw [isSome_if, hr]
        show (_ && r.row.text.isNone) = (_ && !r.row.text.isSome)
        cases r.row.text <;> rfl
      · split at hy
        · cases hy
          exact ⟨ev_var rfl, rfl⟩
        · cases hy
    · refine ret_when (b := !s.boxes.isEmpty && decide (0 < mixV c 9941 3)) ?_ (fun q => ?_) (fun q => ?_)
      · refine eb_is (eb_and (eb_truL (xs := s.boxes.map D.int) (ev_var rfl)) fun _ => eb_test (ev_op (s_mix (ev_var rfl) ev_int ev_int (by decide) (by decide) (by decide)) ev_int op_gtI)) ?_
        rw [List.isEmpty_map]
      · have hne : 0 < (s.boxes.length : Int) := by
          cases e : s.boxes with
          | nil => rw [e] at q; simp at q
          | cons a r => simp only [List.length_cons]; omega
        have b0 := mix_ge c 9931 s.boxes.length hne
        have b1 := mix_lt c 9931 s.boxes.length hne
        refine ret_ret (ev_is (ev_op (ev_var rfl) (s_mix (ev_var rfl) ev_int (ev_is (ev_cb (ea_cons (ev_var rfl) ea_nil) (cl_lenL (xs := s.boxes.map D.int))) (by rw [List.length_map])) (by decide) (by decide) hne) (op_ixLi b0 (ints_getD (by omega)))) ?_)
        unfold LS.parentV
        rw [if_pos q]
        rfl
      · have b0 := mix_ge c 9929 4 (by decide)
        have b1 := mix_lt c 9929 4 (by decide)
        have hm : (mixV c 9929 4).toNat < 4 := by omega
        refine ret_ret (ev_op (ev_tup (ea_cons ev_non (ea_cons ev_non (ea_cons ev_non (ea_cons (s_number x hl hc (ev_var rfl) (ev_var rfl)) ea_nil)))) (by simp)) (s_mix (ev_var rfl) ev_int ev_int (by decide) (by decide) (by decide)) (op_ixTi b0 ?_))
        unfold LS.parentV
        rw [if_neg (by rw [q]; decide)]
        generalize (mixV c 9929 4).toNat = m at hm
        match m, hm with
        | 0, _ => rfl
        | 1, _ => rfl
        | 2, _ => rfl
        | 3, _ => rfl
theorem s_parent {K : PySem.W.Frag} {H : Hp} {c : Int} {q : Addr} {G : SFoot} {s : LS} {ds : List (Option D)} {t1 t2 : TE} {X : XK} (x : SRd H q G s) (hl : s.rows.length < 64) (hc : 0 ≤ s.count) (h1 : EvD t1 ds H (.int c)) (h2 : EvD t2 ds H (.obj q)) : EvD (tCall (sp_law_parent K) [] X (tCons t1 (tCons t2 tNil))) ds H (oI (s.parentV c)) :=
  ev_call (ea_cons h1 (ea_cons h2 ea_nil)) (rsp_pr fun H' e => ⟨c, q, G, s, rfl, x.mono e, hl, hc, rfl⟩)
end Cs
set_option Elab.async false
set_option linter.all false
set_option maxRecDepth 100000
set_option maxHeartbeats 4000000
namespace Cs
open PySem PySem.Spec PyProof.Rows L2
/-! ### isinstance, zip of two tuples -/
def tyD : D → Value
  | .non => .type "NoneType" | .bl _ => .type "bool" | .int _ => .type "int" | .str _ => .type "str" | .tup _ => .type "tuple" | .lst _ => .type "list"
  | .obj _ => .none
def D.isObj : D → Bool
  | .obj _ => true
  | _ => false
theorem tyX_of {K : PySem.W.Frag} {H : Hp} {d : D} {v : V} (ho : d.isObj = false) (h : Is H d v) : TyX K H v (tyD d) := by
  cases d with
  | non => cases (show _ = _ from h); exact .base .non
  | bl b => cases (show _ = _ from h); exact .base (.bl b)
  | int i => cases (show _ = _ from h); exact .base (.int i)
  | str x => cases (show _ = _ from h); exact .base (.str x)
  | obj a => cases ho
  | tup xs => obtain ⟨a, vs, rfl, e, _⟩ := h; exact .base (.tup e)
  | lst xs => obtain ⟨a, vs, rfl, e, _⟩ := h; exact .base (.lst e)
section
variable {K : PySem.W.Frag} {ds : List (Option D)} {H : Hp} {ta te to : TE} {tt : TT} {d : D} {tr : TA}
theorem ev_isi {n : String} {b : Bool} (ha : EvD ta ds H d) (ho : d.isObj = false) (hk : PySem.W.kitOne K (tyD d) (.type n) = some b) : EvD (tCB (rIsi K) (tCons ta (tCons (tC (.ty n)) tNil))) ds H (.bl b) := fun σ H1 e nn Q k =>
  ha σ H1 e nn _ fun v H2 e2 hv => ⟨v, .ty n, tyD d, .type n, b, rfl, .ty n, tyX_of ho hv, hk, k _ H2 e2 rfl⟩
theorem ev_isi2 {n m : String} {b : Bool} (ha : EvD ta ds H d) (ho : d.isObj = false) (hk : PySem.W.kitAny K (tyD d) [.type n, .type m] = some b) : EvD (tCB (rIsiT K) (tCons ta (tCons (tTup (tCons (tC (.ty n)) (tCons (tC (.ty m)) tNil))) tNil))) ds H (.bl b) := fun σ H1 e nn Q k =>
  ha σ H1 e nn _ fun v H2 e2 hv => ⟨by show 2 ≤ sizeLine; decide, fun p hp => ⟨v, p, [.ty n, .ty m], tyD d, [.type n, .type m], b, rfl, upd_same, .cons (.ty n) (.cons (.ty m) .nil), tyX_of ho (hv.mono (Ex.new hp)), hk, k _ _ (e2.trans (Ex.new hp)) rfl⟩⟩
theorem walk_zT {a b : Addr} {xs ys : List V} {n : Nat} (hn : n = min xs.length ys.length) : Walk (RZ.ItzT K a b) n (fun H => SqT K H a xs ∧ SqT K H b ys) (YPair (fun i => xs[i]?) (fun i => ys[i]?)) := by
  subst hn
  refine ⟨fun i H hi q => ?_, fun H q => ⟨xs, ys, q.1, q.2, by omega⟩, fun i H v H' hi q y => ?_⟩
  · have h1 : i < xs.length := Nat.lt_of_lt_of_le hi (Nat.min_le_left _ _)
    have h2 : i < ys.length := Nat.lt_of_lt_of_le hi (Nat.min_le_right _ _)
    exact ⟨xs, ys, xs[i], ys[i], q.1, q.2, List.getElem?_eq_getElem h1, List.getElem?_eq_getElem h2⟩
  · obtain ⟨T, u, z, h1, h2, h3, h4, h5⟩ := y
    exact ⟨T, u, z, h1, h2, h3, h4 xs q.1, h5 ys q.2⟩
/-- [e for a, b in zip(t, t)], each True -/
theorem ev_lcZ {xs : List D} {j1 j2 : Nat} (hj : j1 ≠ j2) (hl : EvA tr ds H [.tup xs, .tup xs]) (hz : xs.length < 1000000) (he : ∀ x ∈ xs, EvD te ((ds.set j1 (some x)).set j2 (some x)) H (.bl true)) :
    EvD (tLc (RZ.iZipA K tr) (gTup K 2 (gCons (gName j1) (gCons (gName j2) gNil))) tYes te [j1, j2]) ds H (.lst (xs.filterMap fun _ => some (.bl true))) := fun σ H0 e n Q q =>
  hl σ H0 e n _ fun vs H1 e1 hv => by
    obtain ⟨v1, r1, rfl, ⟨a, xa, rfl, ha, hxa⟩, v2, r2, rfl, ⟨b, xb, rfl, hb, hxb⟩, hr⟩ := hv
    cases (show _ = _ from hr)
    refine ⟨a, b, xa, xb, rfl, .inr ⟨SqT.of ha, SqT.of hb, fun p hp => ?_⟩⟩
    refine lc_it (walk_zT (n := xs.length) (xs := xa) (ys := xb) (by rw [hxa.len, hxb.len]; omega)) (fun i H' => Acc H1 p ((xs.take i).filterMap fun _ => some (.bl true)) H') (Acc.zero hp) (fun i H' _ A => ⟨SqT.of (A.2.1 _ _ ha), SqT.of (A.2.1 _ _ hb)⟩) (fun i x H' H2 hi A y => ?_) fun H' A => ?_
    · obtain ⟨T, u, z, rfl, hT, rfl, hu, hz'⟩ := y
      obtain ⟨d, hd⟩ : ∃ d, xs[i]? = some d := ⟨xs[i], List.getElem?_eq_getElem hi⟩
      have hm : d ∈ xs := List.mem_of_getElem? hd
      obtain ⟨u', hu', iu⟩ := hxa.get hd
      obtain ⟨z', hz'', iz⟩ := hxb.get hd
      have eu : u = u' := Option.some.inj (hu.symm.trans hu')
      have ez : z = z' := Option.some.inj (hz'.symm.trans hz'')
      subst eu ez
      have eT : Ex H' (upd H' T (.tup [u, z])) := Ex.new hT
      refine ⟨T, _, rfl, SqT.of upd_same, rfl, _, _, rfl, _, _, rfl, rfl, ?_⟩
      have hw : wipe σ [j1, j2] = (σ.set j2 none).set j1 none := rfl
      have es : (((wipe σ [j1, j2]).set j1 (some u)).set j2 (some z)) = (σ.set j1 (some u)).set j2 (some z) := by
        rw [hw, List.set_set, List.set_comm _ _ hj.symm, List.set_set, List.set_comm _ _ hj]
      refine ⟨?_, ?_⟩
      · rw [es, hw]
        show (((σ.set j1 (some u)).set j2 (some z)).set j2 none).set j1 none = (σ.set j2 none).set j1 none
        rw [List.set_set, List.set_comm _ _ hj, List.set_set]
      · rw [fm_take_succ hd]
        have A2 := A.ext eT
        refine lc_turn (f := some (.bl true)) (ds2 := (ds.set j1 (some d)).set j2 (some d)) (H0 := H) (e.trans e1) A2 ?_ ?_ eb_yes (fun y hy => ?_)
        · rw [es]
          exact ((((n.mono e1).mono A2.2.1).set (iu.mono A2.2.1) j1).set (iz.mono A2.2.1) j2)
        · have := filterMap_len (fun _ => some (D.bl true)) (xs.take i)
          have := List.length_take_le' i xs
          omega
        · cases hy
          exact ⟨he d hm, rfl⟩
    · obtain ⟨_, ex, acc, c, d, _⟩ := A
      rw [List.take_length] at d
      exact q _ H' (e1.trans ex) ⟨p, acc, rfl, c, d⟩
theorem cl_allT {xs : List D} : Cl (rAll K) H [.lst (xs.filterMap fun _ => some (.bl true))] (.bl true) := fun H1 e vs hv Q q => by
  obtain ⟨v, r, rfl, ⟨p, us, rfl, hp, hu⟩, hr⟩ := hv
  cases (show _ = _ from hr)
  have e1 : xs.filterMap (fun _ => some (D.bl true)) = (xs.map fun _ => true).map D.bl := by
    rw [List.map_map, ← List.filterMap_eq_map]
    rfl
  rw [e1] at hu
  have e2 : us = (xs.map fun _ => true).map V.bl := by
    rw [hu.flat_eq (by simp [D.flat])]
    simp [D.val]
  rw [e2] at hp
  refine ⟨p, _, rfl, SqL.of hp, q _ _ (Same.refl _) ?_⟩
  show V.bl _ = V.bl true
  congr 1
  simp
end
/-! ### _law_same of the same -/
mutual
def dep : Nat → D → Bool
  | _, .non => true
  | _, .bl _ => true
  | _, .int _ => true
  | _, .str _ => true
  | 0, .tup _ => false
  | n + 1, .tup xs => decide (xs.length < 100000) && depL n xs
  | _, .lst _ => false
  | _, .obj _ => false
def depL : Nat → List D → Bool
  | _, [] => true
  | n, x :: xs => dep n x && depL n xs
end
theorem depL_mem {n : Nat} : ∀ {xs : List D}, depL n xs = true → ∀ x ∈ xs, dep n x = true
  | [], _, _, h => by cases h
  | y :: ys, hd, x, h => by
    unfold depL at hd
    obtain ⟨h1, h2⟩ := Bool.and_eq_true_iff.mp hd
    rcases List.mem_cons.mp h with q | q
    · rw [q]; exact h1
    · exact depL_mem h2 x q
theorem depL_of {n : Nat} : ∀ {xs : List D}, (∀ x ∈ xs, dep n x = true) → depL n xs = true
  | [], _ => by unfold depL; rfl
  | y :: ys, h => by
    unfold depL
    rw [h y (by simp), depL_of fun x hx => h x (by simp [hx])]
    rfl
def sp_same (n : Nat) (K : PySem.W.Frag) : Sp := rsp fun H as d => ∃ x, as = [x, x] ∧ dep n x = true ∧ d = .bl true
theorem dep_tup {n : Nat} {xs : List D} (h : dep n (.tup xs) = true) : ∃ m, n = m + 1 ∧ xs.length < 100000 ∧ depL m xs = true := by
  cases n with
  | zero => unfold dep at h; cases h
  | succ m =>
    unfold dep at h
    obtain ⟨h1, h2⟩ := Bool.and_eq_true_iff.mp h
    exact ⟨m, rfl, by simpa using h1, h2⟩
theorem fk_false {P : Program} {w : World} {K : PySem.W.Frag} {mg : Str → Option Value} {base : Heap} {x qual : Str} {st : Stmt} {f : Addr} {ps : List Str} {k : Nat} (F : Df K x qual st f ps) : Fk P w K mg base k f ps (fun _ _ _ _ => False) := by
  obtain ⟨fd, F, b⟩ := F
  exact ⟨fd, ⟨fun _ _ _ _ h => h.elim, fun _ _ _ _ _ _ _ _ _ _ _ _ _ h => h.elim⟩, b, F.kp⟩
theorem flat_not_tup {d : D} (h : ∀ xs, d ≠ .tup xs) {n : Nat} (hd : dep n d = true) : d.flat = true := by
  cases d with
  | tup xs => exact absurd rfl (h xs)
  | lst xs => unfold dep at hd; cases n <;> cases hd
  | obj a => unfold dep at hd; cases n <;> cases hd
  | _ => rfl
theorem same_step {P : Program} {w : World} {K : PySem.W.Frag} {mg : Str → Option Value} {base : Heap} (S : Says K mg) (n k : Nat) (sp' : Sp) (G_law_same : Fk P w K mg base k (He.fAd K ("_law_same", none)) ["found", "due"] sp')
    (hin : ∀ m, n = m + 1 → ∀ H y, dep m y = true → Pr sp' H [y, y] (.bl true)) : Fk P w K mg base (k + 1) (He.fAd K ("_law_same", none)) ["found", "due"] (sp_same n K) := by
  refine mk_r S.df_law_same sc_law_same ?_ (by decide) fun cdv A outer s H H0 E as d bd hp => ?_
  · rintro H as d ⟨x, rfl, _⟩
    rfl
  · obtain ⟨x, rfl, hd, rfl⟩ := hp
    obtain ⟨hr, tk, px, hu, hu65⟩ := bd
    refine ⟨_, (pss_cons (ps_if (pt_val (pe_callB call_isi (by rfl) S.free_isinstance (by decide +kernel) (pa_cons (pv 1) (pa_cons (pe_bltn (v := .ty "tuple") (by rfl) S.free_tuple (by decide +kernel) rfl) pa_nil)))) (pss_cons (ps_if (PW.pt (pw_or (pt_not (pt_val (pe_callB call_isi (by rfl) S.free_isinstance (by decide +kernel) (pa_cons (pv 0) (pa_cons (pe_bltn (v := .ty "tuple") (by rfl) S.free_tuple (by decide +kernel) rfl) pa_nil))))) (pw_or1 (pt_cmpR op_ne (pe_callB call_len_seq (by rfl) S.free_len (by decide +kernel) (pa_cons (pv 0) pa_nil)) (pe_callB call_len_seq (by rfl) S.free_len (by decide +kernel) (pa_cons (pv 1) pa_nil)) (nomark _))))) (pss_one (ps_ret (pe_bl))) pss_nil)
      (pss_one (ps_ret (pe_callB (cr_all rfl) (by rfl) S.free_all (by decide +kernel) (pa_cons (pe_lc (own := [("one", 2), ("other", 3)]) (g := (gTup K 2 (gCons (gName 2) (gCons (gName 3) gNil)))) (tt := tYes) (te := (tCall sp' [] E0 (tCons (tVar 2) (tCons (tVar 3) tNil)))) rfl sc_law_same.nd (RZ.pi_zipA (by rfl) S.free_zip (pa_cons (pv 0) (pa_cons (pv 1) pa_nil))) (blkOk_by (N := ["found", "due", "one", "other"]) (sc := defScope s_law_same) (by decide +kernel)) (fun _ _ _ _ _ => (pg_tup rfl (pgs_cons (pg_name (i := 2) sc_law_same.nd rfl (Or.inl rfl)) (pgs_cons (pg_name (i := 3) sc_law_same.nd rfl (Or.inl rfl)) pgs_nil)))) (fun _ _ _ _ _ => pts_nil) (fun _ _ _ _ _ => (pe_cf G_law_same (hr.mono (Nat.le_refl _)) (by rfl) S.glo__law_same passL (pa_cons (pv 2) (pa_cons (pv 3) pa_nil))))) pa_nil))))) pss_nil)
      (pss_cons (ps_if (pt_cmp (pc_isN (pv 1))) (pss_one (ps_ret (pe_cmp (pc_isN (pv 0)) rfl))) pss_nil)
      (pss_cons (ps_if (PW.pt (pw_or (pt_val (pe_callB call_isi (by rfl) S.free_isinstance (by decide +kernel) (pa_cons (pv 1) (pa_cons (pe_bltn (v := .ty "bool") (by rfl) S.free_bool (by decide +kernel) rfl) pa_nil)))) (pw_or1 (pt_val (pe_callB call_isi (by rfl) S.free_isinstance (by decide +kernel) (pa_cons (pv 0) (pa_cons (pe_bltn (v := .ty "bool") (by rfl) S.free_bool (by decide +kernel) rfl) pa_nil))))))) (pss_one (ps_ret (pe_and (pe_callB call_isi (by rfl) S.free_isinstance (by decide +kernel) (pa_cons (pv 1) (pa_cons (pe_bltn (v := .ty "bool") (by rfl) S.free_bool (by decide +kernel) rfl) pa_nil))) (pe_and (pe_callB call_isi (by rfl) S.free_isinstance (by decide +kernel) (pa_cons (pv 0) (pa_cons (pe_bltn (v := .ty "bool") (by rfl) S.free_bool (by decide +kernel) rfl) pa_nil))) (pe_one (pe_cmpR op_eq (pv 0) (pv 1) (nomark _))))))) pss_nil)
      (pss_one (ps_ret (pe_and (pe_callB call_isiT (by rfl) S.free_isinstance (by decide +kernel) (pa_cons (pv 0) (pa_cons (pe_tup (pa_cons (pe_bltn (v := .ty "int") (by rfl) S.free_int (by decide +kernel) rfl) (pa_cons (pe_bltn (v := .ty "str") (by rfl) S.free_str (by decide +kernel) rfl) pa_nil))) pa_nil))) (pe_one (pe_cmpR op_eq (pv 0) (pv 1) (nomark _))))))))), ?_⟩
    by_cases ht : ∃ xs, x = .tup xs
    · obtain ⟨xs, rfl⟩ := ht
      obtain ⟨m, hm, hl, hx⟩ := dep_tup hd
      refine ret_when (b := true) (eb_B (ev_isi (ev_var rfl) rfl (kit_ty (by decide +kernel)))) (fun _ => ?_) (fun q => by cases q)
      refine ret_when (b := false) (eb_is (eb_or (b := false) (c := false) (eb_is (eb_not (eb_B (ev_isi (b := true) (ev_var rfl) rfl (kit_ty (by decide +kernel))))) rfl) fun _ => eb_is (eb_test (ev_op (ev_cb (ea_cons (ev_var rfl) ea_nil) cl_lenT) (ev_cb (ea_cons (ev_var rfl) ea_nil) cl_lenT) (op_neF rfl rfl rfl))) (by simp)) rfl) (fun q => by cases q) (fun _ => ?_)
      exact ret_ret (ev_cb (ea_cons (ev_lcZ (by decide) (ea_cons (ev_var rfl) (ea_cons (ev_var rfl) ea_nil)) (by omega) fun y hy => ev_call (ea_cons (ev_var rfl) (ea_cons (ev_var rfl) ea_nil)) (hin m hm H y (depL_mem hx y hy))) ea_nil) cl_allT)
    · have hf := flat_not_tup (fun xs q => ht ⟨xs, q⟩) hd
      cases x with
      | tup xs => exact absurd ⟨xs, rfl⟩ ht
      | lst xs => cases hf
      | obj a => cases hf
      | non =>
        refine ret_when (b := false) (eb_B (ev_isi (ev_var rfl) rfl (kit_ty (by decide +kernel)))) (fun q => by cases q) (fun _ => ?_)
        refine ret_when (b := true) (eb_B (ev_isN (ev_var rfl) fun _ _ hv => by cases (show _ = _ from hv); rfl)) (fun _ => ?_) (fun q => by cases q)
        exact ret_ret (ev_isN (ev_var rfl) fun _ _ hv => by cases (show _ = _ from hv); rfl)
      | bl v =>
        refine ret_when (b := false) (eb_B (ev_isi (ev_var rfl) rfl (kit_ty (by decide +kernel)))) (fun q => by cases q) (fun _ => ?_)
        refine ret_when (b := false) (eb_B (ev_isN (ev_var rfl) fun _ _ hv => by cases (show _ = _ from hv); rfl)) (fun q => by cases q) (fun _ => ?_)
        refine ret_when (b := true) (eb_is (eb_or (b := true) (c := true) (eb_B (ev_isi (ev_var rfl) rfl (kit_ty (by decide +kernel)))) fun q => by cases q) rfl) (fun _ => ?_) (fun q => by cases q)
        refine ret_ret (ev_is (ev_andV (b := true) (c := true) (ev_isi (ev_var rfl) rfl (kit_ty (by decide +kernel))) fun _ => ev_is (ev_andV (b := true) (c := true) (ev_isi (ev_var rfl) rfl (kit_ty (by decide +kernel))) fun _ => ev_is (ev_op (ev_var rfl) (ev_var rfl) (op_eqF rfl rfl rfl)) (by simp)) rfl) rfl)
      | int v =>
        refine ret_when (b := false) (eb_B (ev_isi (ev_var rfl) rfl (kit_ty (by decide +kernel)))) (fun q => by cases q) (fun _ => ?_)
        refine ret_when (b := false) (eb_B (ev_isN (ev_var rfl) fun _ _ hv => by cases (show _ = _ from hv); rfl)) (fun q => by cases q) (fun _ => ?_)
        refine ret_when (b := false) (eb_is (eb_or (b := false) (c := false) (eb_B (ev_isi (ev_var rfl) rfl (kit_ty (by decide +kernel)))) fun _ => eb_B (ev_isi (ev_var rfl) rfl (kit_ty (by decide +kernel)))) rfl) (fun q => by cases q) (fun _ => ?_)
        refine ret_ret (ev_is (ev_andV (b := true) (c := true) (ev_isi2 (ev_var rfl) rfl ?_) fun _ => ev_is (ev_op (ev_var rfl) (ev_var rfl) (op_eqF rfl rfl rfl)) (by simp)) rfl)
        show (match PySem.W.kitOne K (.type "int") (.type "int") with | some true => some true | some false => PySem.W.kitAny K (.type "int") [.type "str"] | none => none) = some true
        rw [kit_ty (r := true) (by decide +kernel)]
      | str v =>
        refine ret_when (b := false) (eb_B (ev_isi (ev_var rfl) rfl (kit_ty (by decide +kernel)))) (fun q => by cases q) (fun _ => ?_)
        refine ret_when (b := false) (eb_B (ev_isN (ev_var rfl) fun _ _ hv => by cases (show _ = _ from hv); rfl)) (fun q => by cases q) (fun _ => ?_)
        refine ret_when (b := false) (eb_is (eb_or (b := false) (c := false) (eb_B (ev_isi (ev_var rfl) rfl (kit_ty (by decide +kernel)))) fun _ => eb_B (ev_isi (ev_var rfl) rfl (kit_ty (by decide +kernel)))) rfl) (fun q => by cases q) (fun _ => ?_)
        refine ret_ret (ev_is (ev_andV (b := true) (c := true) (ev_isi2 (ev_var rfl) rfl ?_) fun _ => ev_is (ev_op (ev_var rfl) (ev_var rfl) (op_eqF rfl rfl rfl)) (by simp)) rfl)
        show (match PySem.W.kitOne K (.type "str") (.type "int") with | some true => some true | some false => (match PySem.W.kitOne K (.type "str") (.type "str") with | some true => some true | some false => some false | none => none) | none => none) = some true
        rw [kit_ty (r := false) (by decide +kernel), kit_ty (r := true) (by decide +kernel)]
theorem ok_same {P : Program} {w : World} {K : PySem.W.Frag} {mg : Str → Option Value} {base : Heap} (S : Says K mg) : ∀ n : Nat, Fk P w K mg base (n + 1) (He.fAd K ("_law_same", none)) ["found", "due"] (sp_same n K)
  | 0 => same_step S 0 0 _ (fk_false S.df_law_same) fun m h => by omega
  | n + 1 => same_step S (n + 1) (n + 1) _ (ok_same S n) fun m h H y hy => rsp_pr fun H' e => ⟨y, rfl, by cases h; exact hy, rfl⟩
def sp_law_same (K : PySem.W.Frag) : Sp := sp_same 5 K
theorem ok_law_same {P : Program} {w : World} {K : PySem.W.Frag} {mg : Str → Option Value} {base : Heap} (S : Says K mg) : Fk P w K mg base 8 (He.fAd K ("_law_same", none)) ["found", "due"] (sp_law_same K) := (ok_same S 5).mono (by decide)
theorem s_same {K : PySem.W.Frag} {H : Hp} {x : D} {ds : List (Option D)} {t1 t2 : TE} {X : XK} (hx : dep 5 x = true) (h1 : EvD t1 ds H x) (h2 : EvD t2 ds H x) : EvD (tCall (sp_law_same K) [] X (tCons t1 (tCons t2 tNil))) ds H (.bl true) :=
  ev_call (ea_cons h1 (ea_cons h2 ea_nil)) (rsp_pr fun H' e => ⟨x, rfl, hx, rfl⟩)
end Cs
set_option Elab.async false
set_option linter.all false
set_option maxRecDepth 100000
set_option maxHeartbeats 4000000
namespace Cs
open PySem PySem.Spec PyProof.Rows L2
/-! ### a new list of one's own -/
section
variable {K : PySem.W.Frag} {ds : List (Option D)} {H : Hp} {ta tb te : TE} {tr : TA} {tz : TS} {E : Ends} {xs ys : List D}
def EvL (te : TE) (ds : List (Option D)) (H : Hp) (xs : List D) : Prop := ∀ σ H1, Ex H H1 → EnvOk H1 σ ds → ∀ Q : VK, (∀ p vs H2, H1 p = none → Ex H1 H2 → H2 p = some (.lst vs) → IsL H2 xs vs → Q (.ref p) H2) → te σ H1 Q
theorem el_lst (h : EvA tr ds H xs) (hl : xs.length ≤ 100000) : EvL (tLst tr) ds H xs := fun σ H1 e n Q k =>
  h σ H1 e n _ fun vs H2 e2 hv => ⟨Nat.le_trans (by rw [hv.len]; exact hl) (by decide), fun p hp => k p vs _ (e2.free hp) (e2.trans (Ex.new hp)) upd_same (hv.mono (Ex.new hp))⟩
theorem el_cat (ha : EvD ta ds H (.lst xs)) (hb : EvD tb ds H (.lst ys)) (hl : xs.length + ys.length ≤ 100000) : EvL (tOp rCat ta tb) ds H (xs ++ ys) := fun σ H1 e n Q k =>
  ha σ H1 e n _ fun v H2 e2 hv => hb σ H2 (e.trans e2) (n.mono e2) _ fun u H3 e3 hu => by
    obtain ⟨p, vs, rfl, hp, hvs⟩ := hv.mono e3
    obtain ⟨q, us, rfl, hq, hus⟩ := hu
    refine ⟨p, q, vs, us, rfl, rfl, hp, hq, Nat.le_trans (by rw [hvs.len, hus.len]; exact hl) (by decide), fun r hr => ?_⟩
    exact k r _ _ ((e2.trans e3).free hr) ((e2.trans e3).trans (Ex.new hr)) upd_same ((hvs.app hus).mono (Ex.new hr))
theorem EvL.d (h : EvL te ds H xs) : EvD te ds H (.lst xs) := fun σ H1 e n Q k => h σ H1 e n Q fun p vs H2 _ e2 hp hl => k _ H2 e2 ⟨p, vs, rfl, hp, hl⟩
theorem go_asgNew {i : Nat} (h : EvL te ds H xs) (k : ∀ p vs H2, H p = none → Ex H H2 → H2 p = some (.lst vs) → IsL H2 xs vs → Go tz (ds.set i (some (.obj p))) H2 E) : Go (tSeq (tAsg te (gName i)) tz) ds H E := fun σ H1 e n =>
  h σ H1 e n _ fun p vs H2 hn e2 hp hl => k p vs H2 (e.free hn) (e.trans e2) hp hl _ H2 (Same.refl _) ((n.mono e2).set (d := .obj p) (v := .ref p) rfl i)
/-- all but p is kept -/
def But (p : Addr) (H H' : Hp) : Prop := ∀ b o, H b = some o → b ≠ p → H' b = some o
theorem But.tups {p : Addr} {H H' : Hp} {us : List V} (hp : H p = some (.lst us)) (b : But p H H') : ∀ a vs, H a = some (.tup vs) → H' a = some (.tup vs) := fun a vs q => b a _ q (ne_of q hp (by intro z; cases z))
theorem Ex.but {p : Addr} {H H1 H2 : Hp} (e : Ex H H1) (hp : H p = none) (b : But p H1 H2) : Ex H H2 := fun a o q => b a o (e a o q) (ne_of_none q hp)
theorem go_append {p : Addr} {vs : List V} {y : D} (hp : H p = some (.lst vs)) (hl : IsL H xs vs) (hz : xs.length < 100000) (px : D.pureL xs = true) (py : y.pure = true) (pe : pureE ds = true) (ho : EvD ta ds H (.obj p)) (he : EvD te ds H y)
    (k : ∀ u H2, But p H H2 → H2 p = some (.lst (vs ++ [u])) → IsL H2 (xs ++ [y]) (vs ++ [u]) → Go tz ds H2 E) : Go (tSeq (tDrop (tBM K "list" rAppend ta (tCons te tNil))) tz) ds H E := fun σ H1 e n =>
  ho σ H1 e n _ fun x H2 e2 hx => by
    cases (show _ = _ from hx)
    refine ⟨.inl ⟨rfl, vs, SqL.of ((e.trans e2) _ _ hp)⟩, he σ H2 (e.trans e2) (n.mono e2) _ fun u H3 e3 hu => ?_⟩
    have ee := (e.trans e2).trans e3
    have hp3 := ee _ _ hp
    refine ⟨p, vs, u, rfl, rfl, hp3, Nat.lt_trans (by rw [hl.len]; exact hz) (by decide), ?_⟩
    have bb : But p H (upd H3 p (.lst (vs ++ [u]))) := fun b o q nb => by
      rw [upd_ne nb]
      exact ee b o q
    refine k u _ bb upd_same (((hl.mono ee).upd_lst hp3 px).snoc (hu.upd_lst hp3 py)) σ _ (Same.refl _) ?_
    exact ((n.mono e2).mono e3).tups (fun a ws q => by rw [upd_ne (ne_of q hp3 (by intro z; cases z))]; exact q) pe
end
theorem mk_g {P : Program} {w : World} {K : PySem.W.Frag} {mg : Str → Option Value} {base : Heap} {k : Nat} {f : Addr} {ps N : List Str} {x qual : Str} {st : Stmt} {Pre : Hp → List D → D → Prop} (F : Df K x qual st f ps) (S : FnScope N ps (defScope st)) (hlen : ∀ H as d, Pre H as d → as.length = ps.length) (hN : ps.length ≤ N.length)
    (hbody : ∀ (cdv : Value) (A : Around) (outer : List Env) (s : Shared) (H H0 : Hp) (Q : VK) (E : XK) (as : List D) (d : D), Bd P w K mg base N qual (defScope st) f cdv A outer s H0 E k → Pre H as d →
      (∀ v H', Ex H H' → Is H' d v → Q v H') → ∃ t, PSs (cxOf (L2.CX P w) P w K mg base N qual (defScope st) f cdv A outer s H0 E) (defBody st) t ∧ Go t (as.map some ++ List.replicate (N.length - as.length) none) H { nx := fun _ H' => Q .non H', rt := Q }) : Fk P w K mg base (k + 1) f ps (rsp Pre) := by
  refine mk_fk F S (fun vs H Q E h => ?_) fun cdv A outer s H vs Q E hr h => ?_
  · obtain ⟨as, d, hv, hp, _⟩ := h
    rw [hv.len, hlen H as d hp]
  · obtain ⟨as, d, hv, hp, k1⟩ := h
    obtain ⟨t, h1, h2⟩ := hbody cdv A outer s H H Q E as d (bd_of hr) hp k1
    exact ⟨t, h1, h2 _ H (Same.refl _) (start_env hv (by rw [hlen H as d hp]; exact hN))⟩
/-! ### refusals by their words -/
theorem Says.exB {K : PySem.W.Frag} {mg : Str → Option Value} (S : Says K mg) {x : Str} (h : x ∈ excs) : excB K x = true := List.all_eq_true.mp S.m x h
theorem Says.excC {K : PySem.W.Frag} {mg : Str → Option Value} (S : Says K mg) {x : Str} (h : x ∈ excs) : ExcC K (He.ga K x) := by
  have q := S.exB h
  unfold excB at q
  simp only [Bool.and_eq_true, decide_eq_true_eq] at q
  obtain ⟨h1, h2, h3, h4, h5, h6, h7, h8, _⟩ := q
  exact ⟨He.eqO_ok h1, He.eqO_ok h2, h3, h4, He.eqO_ok h5, He.eqO_ok h6, h7, h8⟩
theorem Says.kitV {K : PySem.W.Frag} {mg : Str → Option Value} (S : Says K mg) {x : Str} (h : x ∈ excs) : PySem.W.kitOne K (.ref (He.ga K x)) (.type "ValueError") = some true := by
  have q := S.exB h
  unfold excB at q
  simp only [Bool.and_eq_true, decide_eq_true_eq] at q
  exact q.2.2.2.2.2.2.2.2.1
theorem Says.kit {K : PySem.W.Frag} {mg : Str → Option Value} (S : Says K mg) {x y : Str} (h : x ∈ excs) (hy : y ∈ excs) : PySem.W.kitOne K (.ref (He.ga K x)) (.ref (He.ga K y)) = some (decide (x = y)) := by
  have q := S.exB h
  unfold excB at q
  simp only [Bool.and_eq_true, decide_eq_true_eq] at q
  exact of_decide_eq_true (List.all_eq_true.mp q.2.2.2.2.2.2.2.2.2 y hy)
def wordL : List Str := ["no thing", "no box", "no sheet", "taken", "inside", "no room", "same", "no tie", "no cast"]
def wordOf (x : Str) : Str := wordL.getD (excs.findIdx fun y => decide (x = y)) ""
section
variable {K : PySem.W.Frag} {mg : Str → Option Value} {H : Hp} {ds : List (Option D)} {ta : TE} {a : Addr} {x : Str}
theorem ev_isH (S : Says K mg) (hx : x ∈ excs) (ha : H a = some (ExH (.ref (He.ga K x)) a)) (ho : EvD ta ds H (.obj a)) {y : Str} (hy : y ∈ excs) : EvD (tCB (rIsH K) (tCons ta (tCons (tC (.ref (He.ga K y))) tNil))) ds H (.bl (decide (x = y))) := fun σ H1 e n Q k =>
  ho σ H1 e n _ fun v H2 e2 hv => by
    cases (show _ = _ from hv)
    exact ⟨a, He.ga K x, .ref (He.ga K y), .ref (He.ga K y), _, rfl, (e.trans e2) _ _ ha, S.excC hx, fun u hu => hu, S.kit hx hy, k _ H2 e2 rfl⟩
theorem ev_isHV (S : Says K mg) (hx : x ∈ excs) (ha : H a = some (ExH (.ref (He.ga K x)) a)) (ho : EvD ta ds H (.obj a)) : EvD (tCB (rIsH K) (tCons ta (tCons (tC (.ty "ValueError")) tNil))) ds H (.bl true) := fun σ H1 e n Q k =>
  ho σ H1 e n _ fun v H2 e2 hv => by
    cases (show _ = _ from hv)
    exact ⟨a, He.ga K x, .ty "ValueError", .type "ValueError", _, rfl, (e.trans e2) _ _ ha, S.excC hx, fun u hu => hu, S.kitV hx, k _ H2 e2 rfl⟩
end
def bls (bs : List Bool) : List D := bs.map D.bl
theorem bls_val (bs : List Bool) : (bls bs).map D.val = bs.map V.bl := by simp [bls, D.val, Function.comp_def]
theorem bls_flat (bs : List Bool) : (bls bs).all D.flat = true := by simp [bls, D.flat]
theorem cnt_true (bs : List Bool) : ((bs.map V.bl).countP fun z => eqV z (.bl true)) = bs.count true := by
  induction bs with
  | nil => rfl
  | cons b bs ih =>
    rw [List.map_cons, List.countP_cons, List.count_cons, ih]
    cases b <;> rfl
theorem ev_cnt {K : PySem.W.Frag} {ds : List (Option D)} {H : Hp} {ta tb : TE} {bs : List Bool} (ha : EvD ta ds H (.lst (bls bs))) (hb : EvD tb ds H (.bl true)) : EvD (tBM K "list" (rCntB K) ta (tCons tb tNil)) ds H (.int (bs.count true : Nat)) := fun σ H1 e n Q k =>
  ha σ H1 e n _ fun v H2 e2 hv => by
    obtain ⟨p, vs, rfl, hp, hl⟩ := hv
    refine ⟨.inl ⟨rfl, vs, SqL.of hp⟩, hb σ H2 (e.trans e2) (n.mono e2) _ fun u H3 e3 hu => ?_⟩
    cases (show _ = _ from hu)
    have hvs : vs = bs.map V.bl := by rw [hl.flat_eq (bls_flat bs), bls_val]
    subst hvs
    refine ⟨p, _, .bl true, rfl, rfl, SqL.of (e3 _ _ hp), rfl, by simp [flatV], k _ H3 (e2.trans e3) ?_⟩
    rw [cnt_true]
    rfl
theorem ev_index {K : PySem.W.Frag} {ds : List (Option D)} {H : Hp} {ta tb : TE} {bs : List Bool} {j : Nat} (ha : EvD ta ds H (.lst (bls bs))) (hb : EvD tb ds H (.bl true)) (h1 : bs[j]? = some true) (h2 : ∀ m : Nat, m < j → bs[m]? = some false) : EvD (tBM K "list" (rIndex K) ta (tCons tb tNil)) ds H (.int (j : Nat)) := fun σ H1 e n Q k =>
  ha σ H1 e n _ fun v H2 e2 hv => by
    obtain ⟨p, vs, rfl, hp, hl⟩ := hv
    refine ⟨.inl ⟨rfl, vs, SqL.of hp⟩, hb σ H2 (e.trans e2) (n.mono e2) _ fun u H3 e3 hu => ?_⟩
    cases (show _ = _ from hu)
    have hvs : vs = bs.map V.bl := by rw [hl.flat_eq (bls_flat bs), bls_val]
    subst hvs
    refine ⟨p, _, .bl true, j, .bl true, rfl, rfl, SqL.of (e3 _ _ hp), rfl, by simp [flatV], by rw [List.getElem?_map, h1]; rfl, rfl, fun m z hm hz => ?_, k _ H3 (e2.trans e3) rfl⟩
    rw [List.getElem?_map, h2 m hm] at hz
    cases hz
    rfl
def sp_law_word (K : PySem.W.Frag) : Sp := rsp fun H as d => ∃ a x, as = [.obj a] ∧ H a = some (ExH (.ref (He.ga K x)) a) ∧ x ∈ excs ∧ d = .str (wordOf x)
theorem ok_law_word {P : Program} {w : World} {K : PySem.W.Frag} {mg : Str → Option Value} {base : Heap} (S : Says K mg) : Fk P w K mg base 1 (He.fAd K ("_law_word", none)) ["kept"] (sp_law_word K) := by
  refine mk_g S.df_law_word sc_law_word ?_ (by decide) fun cdv A outer s H H0 Q E as d bd hp k => ?_
  · rintro H as d ⟨a, x, rfl, _⟩
    rfl
  · obtain ⟨a, x, rfl, ha, hx, rfl⟩ := hp
    obtain ⟨hr, tk, px, hu, hu65⟩ := bd
    refine ⟨_, (pss_cons (ps_set (i := 1) sc_law_word.nd rfl (Or.inl rfl) (pe_lst (pa_cons (pe_callB call_isH (by rfl) S.free_isinstance (by decide +kernel) (pa_cons (pv 0) (pa_cons (pe_glob (v := .ref (He.ga K "NoThing")) (by rfl) S.glo_NoThing rfl) pa_nil))) (pa_cons (pe_callB call_isH (by rfl) S.free_isinstance (by decide +kernel) (pa_cons (pv 0) (pa_cons (pe_glob (v := .ref (He.ga K "NoBox")) (by rfl) S.glo_NoBox rfl) pa_nil))) pa_nil))))
      (pss_cons (ps_set (i := 1) sc_law_word.nd rfl (Or.inl rfl) (pe_op op_cat (pv 1) (pe_lst (pa_cons (pe_callB call_isH (by rfl) S.free_isinstance (by decide +kernel) (pa_cons (pv 0) (pa_cons (pe_glob (v := .ref (He.ga K "NoSheet")) (by rfl) S.glo_NoSheet rfl) pa_nil))) (pa_cons (pe_callB call_isH (by rfl) S.free_isinstance (by decide +kernel) (pa_cons (pv 0) (pa_cons (pe_glob (v := .ref (He.ga K "Taken")) (by rfl) S.glo_Taken rfl) pa_nil))) pa_nil)))))
      (pss_cons (ps_set (i := 1) sc_law_word.nd rfl (Or.inl rfl) (pe_op op_cat (pv 1) (pe_lst (pa_cons (pe_callB call_isH (by rfl) S.free_isinstance (by decide +kernel) (pa_cons (pv 0) (pa_cons (pe_glob (v := .ref (He.ga K "Inside")) (by rfl) S.glo_Inside rfl) pa_nil))) (pa_cons (pe_callB call_isH (by rfl) S.free_isinstance (by decide +kernel) (pa_cons (pv 0) (pa_cons (pe_glob (v := .ref (He.ga K "NoRoom")) (by rfl) S.glo_NoRoom rfl) pa_nil))) pa_nil)))))
      (pss_cons (ps_set (i := 1) sc_law_word.nd rfl (Or.inl rfl) (pe_op op_cat (pv 1) (pe_lst (pa_cons (pe_callB call_isH (by rfl) S.free_isinstance (by decide +kernel) (pa_cons (pv 0) (pa_cons (pe_glob (v := .ref (He.ga K "Same")) (by rfl) S.glo_Same rfl) pa_nil))) (pa_cons (pe_callB call_isH (by rfl) S.free_isinstance (by decide +kernel) (pa_cons (pv 0) (pa_cons (pe_glob (v := .ref (He.ga K "NoTie")) (by rfl) S.glo_NoTie rfl) pa_nil))) pa_nil)))))
      (pss_cons (ps_set (i := 2) sc_law_word.nd rfl (Or.inl rfl) (pe_tup (pa_cons (pe_str) (pa_cons (pe_str) (pa_cons (pe_str) (pa_cons (pe_str) (pa_cons (pe_str) (pa_cons (pe_str) (pa_cons (pe_str) pa_nil)))))))))
      (pss_cons (ps_set (i := 2) sc_law_word.nd rfl (Or.inl rfl) (pe_op op_catT (pv 2) (pe_tup (pa_cons (pe_str) (pa_cons (pe_str) pa_nil)))))
      (pss_cons (ps_expr (pe_bm PySem.F.plainAttrs_list PySem.F.slot_list_append PySem.F.type_list_append mt_append (pv 1) (pa_cons (pe_callB call_isH (by rfl) S.free_isinstance (by decide +kernel) (pa_cons (pv 0) (pa_cons (pe_glob (v := .ref (He.ga K "NoCast")) (by rfl) S.glo_NoCast rfl) pa_nil))) pa_nil)))
      (pss_cons (ps_if (PW.pt (pw_or (pt_cmpR op_ne (pe_bm PySem.F.plainAttrs_list PySem.F.slot_list_count PySem.F.type_list_count mt_countB (pv 1) (pa_cons (pe_bl) pa_nil)) (pe_int) (nomark _)) (pw_or1 (pt_not (pt_val (pe_callB call_isH (by rfl) S.free_isinstance (by decide +kernel) (pa_cons (pv 0) (pa_cons (pe_bltn (v := .ty "ValueError") (by rfl) S.free_ValueError (by decide +kernel) rfl) pa_nil)))))))) (pss_one (ps_ret (pe_str))) pss_nil)
      (pss_one (ps_ret (pe_ix ix_tup (pv 2) (pe_bm PySem.F.plainAttrs_list PySem.F.slot_list_index PySem.F.type_list_index mt_index (pv 1) (pa_cons (pe_bl) pa_nil)) (fun _ _ => rfl)))))))))))), ?_⟩
    have m0 : ∀ y, y ∈ excs → ∀ {ds : List (Option D)} {H1 : Hp}, Ex H H1 → ds[0]? = some (some (.obj a)) → EvD (tCB (rIsH K) (tCons (tVar 0) (tCons (tC (.ref (He.ga K y))) tNil))) ds H1 (.bl (decide (x = y))) := fun y hy ds H1 e i0 => ev_isH S hx (e _ _ ha) (ev_var i0) hy
    have e0 := Same.refl H
    refine go_asg (ev_lst (ea_cons (m0 "NoThing" (by decide +kernel) e0 rfl) (ea_cons (m0 "NoBox" (by decide +kernel) e0 rfl) ea_nil)) (by simp)) ?_
    refine go_asg (el_cat (ev_var rfl) (ev_lst (ea_cons (m0 "NoSheet" (by decide +kernel) e0 rfl) (ea_cons (m0 "Taken" (by decide +kernel) e0 rfl) ea_nil)) (by simp)) (by simp)).d ?_
    refine go_asg (el_cat (ev_var rfl) (ev_lst (ea_cons (m0 "Inside" (by decide +kernel) e0 rfl) (ea_cons (m0 "NoRoom" (by decide +kernel) e0 rfl) ea_nil)) (by simp)) (by simp)).d ?_
    refine go_asgNew (el_cat (ev_var rfl) (ev_lst (ea_cons (m0 "Same" (by decide +kernel) e0 rfl) (ea_cons (m0 "NoTie" (by decide +kernel) e0 rfl) ea_nil)) (by simp)) (by simp)) fun p vs H2 hn e2 hp hl => ?_
    refine go_asg (ev_tup (ea_cons ev_str (ea_cons ev_str (ea_cons ev_str (ea_cons ev_str (ea_cons ev_str (ea_cons ev_str (ea_cons ev_str ea_nil))))))) (by simp)) ?_
    refine go_asg (ev_op (ev_var rfl) (ev_tup (ea_cons ev_str (ea_cons ev_str ea_nil)) (by simp)) (op_catTD (by simp) (by simp) (by simp))) ?_
    refine go_append hp hl (by simp) rfl rfl rfl (ev_var rfl) (m0 "NoCast" (by decide +kernel) e2 rfl) fun u H3 b3 hp3 hl3 => ?_
    have e3 : Ex H H3 := e2.but hn b3
    have hL : Is H3 (.lst (bls (excs.map fun y => decide (x = y)))) (.ref p) := ⟨p, _, rfl, hp3, hl3⟩
    have eK : ∀ {ds : List (Option D)}, ds[1]? = some (some (.obj p)) → EvD (tVar 1) ds H3 (.lst (bls (excs.map fun y => decide (x = y)))) := fun i1 => ev_as (ev_var i1) hL
    have hc : (excs.map fun y => decide (x = y)).count true = 1 ∧ ∃ j : Nat, (excs.map fun y => decide (x = y))[j]? = some true ∧ (∀ m : Nat, m < j → (excs.map fun y => decide (x = y))[m]? = some false) ∧ wordL[j]? = some (wordOf x) := by
      have hall : ∀ z ∈ excs, (excs.map fun y => decide (z = y)).count true = 1 ∧ ((excs.map fun y => decide (z = y))[excs.findIdx fun y => decide (z = y)]? = some true ∧ (∀ m : Nat, m < (excs.findIdx fun y => decide (z = y)) → (excs.map fun y => decide (z = y))[m]? = some false) ∧ wordL[excs.findIdx fun y => decide (z = y)]? = some (wordOf z)) := by decide +kernel
      exact ⟨(hall x hx).1, _, (hall x hx).2⟩
    obtain ⟨hc1, j, hj1, hj2, hj3⟩ := hc
    refine go_when (b := false) (eb_is (eb_or (b := false) (c := false) (eb_is (eb_test (ev_op (ev_cnt (bs := excs.map fun y => decide (x = y)) (eK rfl) ev_bl) ev_int (op_neF rfl rfl rfl))) (by rw [hc1]; rfl)) fun _ => eb_is (eb_not (eb_B (ev_isHV S hx (e3 _ _ ha) (ev_var rfl)))) rfl) rfl) (fun q => by cases q) fun _ => ?_
    refine go_ret (d := .str (wordOf x)) ?_ fun v H4 e4 hv => k v H4 (e3.trans e4) hv
    refine ev_op (ev_var rfl) (ev_index (j := j) (bs := excs.map fun y => decide (x = y)) (eK rfl) ev_bl hj1 hj2) (op_ixT (i := j) ?_)
    have : (wordL.map D.str)[j]? = some (.str (wordOf x)) := by rw [List.getElem?_map, hj3]; rfl
    exact this
end Cs
set_option Elab.async false
set_option linter.all false
set_option maxRecDepth 100000
set_option maxHeartbeats 4000000
namespace Cs
open PySem PySem.Spec PyProof.Rows L2
/-! ### deeds -/
inductive Deed where
  | make (par : Option Int) (nm : Str) (b : Bool)
  | rename (n : Int) (nm : Str)
  | move (n : Int) (par : Option Int)
  | copy (n : Int) (par : Option Int)
  | write (n : Int) (tx : Str)
  | tie (a b : Int)
  | untie (a b : Int)
  | back (n : Int)
  | gone (n : Int)
  | cast (n : Int)
  | empty
  | next_day
def Deed.d : Deed → D
  | .make par nm b => .tup [.str "make", oI par, .str nm, .bl b]
  | .rename n nm => .tup [.str "rename", .int n, .str nm]
  | .move n par => .tup [.str "move", .int n, oI par]
  | .copy n par => .tup [.str "copy", .int n, oI par]
  | .write n tx => .tup [.str "write", .int n, .str tx]
  | .tie a b => .tup [.str "tie", .int a, .int b]
  | .untie a b => .tup [.str "untie", .int a, .int b]
  | .back n => .tup [.str "back", .int n]
  | .gone n => .tup [.str "gone", .int n]
  | .cast n => .tup [.str "cast", .int n]
  | .empty => .tup [.str "empty"]
  | .next_day => .tup [.str "next_day"]
theorem Deed.pure (dd : Deed) : dd.d.pure = true := by
  cases dd <;> first | rfl | (rename_i p _ _; cases p <;> rfl) | (rename_i _ p; cases p <;> rfl)
section
variable {K : PySem.W.Frag} {ds : List (Option D)} {H : Hp} {ta te : TE} {tr : TA} {tz : TS} {E : Ends} {xs : List D} {x y : D}
theorem go_par {i j : Nat} (h : EvA tr ds H [x, y]) (k : Go tz ((ds.set i (some x)).set j (some y)) H E) : Go (tSeq (tPar i j tr) tz) ds H E := fun σ H1 e n =>
  h σ H1 e n _ fun vs H2 e2 hv => by
    obtain ⟨v, r, rfl, h1, w, r2, rfl, h2, h3⟩ := hv
    cases (show _ = _ from h3)
    exact ⟨v, w, rfl, k _ H2 (e.trans e2) (((n.mono e2).set h1 i).set h2 j)⟩
theorem ret_par {i j : Nat} {d : D} (h : EvA tr ds H [x, y]) (k : Ret tz ((ds.set i (some x)).set j (some y)) H d) : Ret (tSeq (tPar i j tr) tz) ds H d := fun σ H1 e n E q =>
  h σ H1 e n _ fun vs H2 e2 hv => by
    obtain ⟨v, r, rfl, h1, w, r2, rfl, h2, h3⟩ := hv
    cases (show _ = _ from h3)
    exact ⟨v, w, rfl, k _ H2 (e.trans e2) (((n.mono e2).set h1 i).set h2 j) E fun u H3 e3 hu => q u H3 (e2.trans e3) hu⟩
theorem cut_from1 (vs : List V) (h : 1 ≤ vs.length) : cutV vs (some 1) none = vs.drop 1 ∧ ¬ (HT.sIx vs.length 0 (some 1) = 0 ∧ HT.sIx vs.length vs.length none = vs.length) := by
  have e1 : HT.sIx vs.length 0 (some 1) = 1 := by
    have := HT.sIx_nat vs.length 0 1
    rw [Nat.min_eq_left h] at this
    exact this
  have e2 : HT.sIx vs.length vs.length none = vs.length := rfl
  refine ⟨?_, by rw [e1]; omega⟩
  unfold cutV
  rw [e1, e2]
  exact List.take_of_length_le (by simp)
/-- t[1:] -/
theorem ev_tail (h : EvD ta ds H (.tup (x :: xs))) : EvD (tSl (rSlT K) ta (tPart (tC (.int 1))) tNoPart) ds H (.tup xs) := fun σ H1 e n Q k =>
  h σ H1 e n _ fun v H2 e2 hv => by
    obtain ⟨p, vs, rfl, hp, hl⟩ := hv
    have hlen := hl.len
    obtain ⟨c1, c2⟩ := cut_from1 vs (by rw [hlen]; simp)
    refine ⟨1, rfl, p, vs, rfl, SqT.of hp, c2, fun q hq => ?_⟩
    rw [c1]
    exact k _ _ (e2.trans (Ex.new hq)) ⟨q, _, rfl, upd_same, (hl.drop 1).mono (Ex.new hq)⟩
theorem eb_eqS {i : Nat} {a b : Str} {v : Bool} (h : ds[i]? = some (some (.str a))) (hv : decide (V.str a = V.str b) = v) : EvB (tTest (tOp rEq (tVar i) (tC (.str b)))) ds H v := eb_is (eb_test (ev_op (ev_var h) ev_str (op_eqF rfl rfl rfl))) hv
theorem eb_inS {i : Nat} {a : Str} {bs : List Str} {v : Bool} (h : ds[i]? = some (some (.str a))) (ha : EvA tr ds H (bs.map D.str)) (hl : bs.length ≤ 1000) (hv : decide (a ∈ bs) = v) : EvB (tTest (tOp (rIn K false) (tVar i) (tTup tr))) ds H v := by
  refine eb_is (eb_test (ev_op (ev_var h) (ev_tup ha (by rw [List.length_map]; omega)) (op_inT rfl (strs_flat _)))) ?_
  rw [strs_val]
  exact (inV_strs a bs).trans hv
end
end Cs
set_option Elab.async false
set_option linter.all false
set_option maxRecDepth 100000
set_option maxHeartbeats 4000000
namespace Cs
open PySem PySem.Spec PyProof.Rows L2
/-! ### loops -/
section
variable {K : PySem.W.Frag} {ds : List (Option D)} {H : Hp} {ta te tl : TE} {t : TT} {tr : TA} {tu tz : TS} {E : Ends} {ι : Type}
theorem go_last {ts : TS} (h : Go (tSeq ts tNext) ds H E) : Go ts ds H E := h
theorem go_while (P : ι → Hp → Prop) (env : ι → List (Option D)) (μ : ι → Nat) (i0 : ι) (he : env i0 = ds) (h0 : ∀ H', Ex H H' → P i0 H')
    (hs : ∀ i H1, P i H1 → ∃ b, EvB t (env i) H1 b ∧ (b = true → ∀ N : L2.St → Hp → Prop, (∀ j σ H2, P j H2 → μ j < μ i → EnvOk H2 σ (env j) → N σ H2) → Go tu (env i) H1 { E with nx := N, ct := N, bk := tz E }) ∧ (b = false → Go tz (env i) H1 E)) : Go (tSeq (tWhile t tu) tz) ds H E := fun σ H1 e n => by
  refine ⟨fun m σ' H' => ∃ i, m = μ i ∧ P i H' ∧ EnvOk H' σ' (env i), ⟨μ i0, i0, rfl, h0 H1 e, by rw [he]; exact n⟩, ?_⟩
  rintro m σ' H' ⟨i, rfl, p, n'⟩
  obtain ⟨b, hb, h1, h2⟩ := hs i H' p
  refine hb σ' H' (Same.refl _) n' _ fun H2 e2 => ?_
  cases b with
  | true => exact iteT ⟨fun σ2 H3 => ∃ j, P j H3 ∧ μ j < μ i ∧ EnvOk H3 σ2 (env j), fun σ2 H3 ⟨j, a, b, c⟩ => ⟨μ j, b, j, rfl, a, c⟩, h1 rfl _ (fun j σ2 H3 a b c => ⟨j, a, b, c⟩) σ' H2 e2 (n'.mono e2)⟩
  | false => exact iteF (h2 rfl σ' H2 e2 (n'.mono e2))
/-- over a new list of numbers, while what is in L alone is changed -/
theorem go_forN {ns : List Int} {j : Nat} (L : List Addr) (hL : ∀ b ∈ L, H b ≠ none) (hl : EvL tl ds H (ns.map D.int)) (P : Nat → ι → Hp → Prop) (env : ι → List (Option D)) (i0 : ι) (he : env i0 = ds) (h0 : ∀ H', Ex H H' → P 0 i0 H')
    (hs : ∀ i n s H1, ns[i]? = some n → P i s H1 → ∀ N : L2.St → Hp → Prop, (∀ s' σ H2, P (i + 1) s' H2 → Fr L H1 H2 → EnvOk H2 σ (env s') → N σ H2) → Go tu ((env s).set j (some (.int n))) H1 { E with nx := N, ct := N, bk := tz E })
    (hd : ∀ s H1, P ns.length s H1 → Go tz (env s) H1 E) : Go (tSeq (tFor (iList K tl) (gName j) tu) tz) ds H E := fun σ H1 e n =>
  hl σ H1 e n _ fun a vs H2 ha e2 hv hi => by
    have hvs := hi.ints
    subst hvs
    have nL : a ∉ L := fun m => hL a m (e.free ha)
    refine ⟨a, rfl, ⟨_, SqL.of hv⟩, for_list (xs := ns.map V.int) (fun i σ' H' => H' a = some (.lst (ns.map V.int)) ∧ ∃ s, P i s H' ∧ EnvOk H' σ' (env s)) ⟨hv, i0, h0 H2 (e.trans e2), by rw [he]; exact n.mono e2⟩ (fun i σ' H' _ p => SqL.of p.1) (fun i x σ' H' hx p => ?_) fun σ' H' p => ?_⟩
    · obtain ⟨ha', s, ps, n'⟩ := p
      rw [List.getElem?_map] at hx
      obtain ⟨m, hm, rfl⟩ : ∃ m, ns[i]? = some m ∧ V.int m = x := by
        cases e3 : ns[i]? with
        | none => rw [e3] at hx; cases hx
        | some m => rw [e3] at hx; exact ⟨m, rfl, Option.some.inj hx⟩
      exact hs i m s H' hm ps _ (fun s' σ2 H3 p3 fr n3 => ⟨fr a _ ha' nL, s', p3, n3⟩) _ H' (Same.refl _) (n'.set (d := .int m) (v := .int m) rfl j)
    · obtain ⟨_, s, ps, n'⟩ := p
      rw [List.length_map] at ps
      exact hd s H' ps σ' H' (Same.refl _) n'
/-- over a list of numbers, while no list is changed -/
theorem go_forK {ns : List Int} {j : Nat} (hl : EvD tl ds H (.lst (ns.map D.int))) (P : Nat → ι → Hp → Prop) (env : ι → List (Option D)) (i0 : ι) (he : env i0 = ds) (h0 : ∀ H', Ex H H' → P 0 i0 H')
    (hs : ∀ i n s H1, ns[i]? = some n → P i s H1 → ∀ N : L2.St → Hp → Prop, (∀ s' σ H2, P (i + 1) s' H2 → (∀ a vs, H1 a = some (.lst vs) → H2 a = some (.lst vs)) → EnvOk H2 σ (env s') → N σ H2) → Go tu ((env s).set j (some (.int n))) H1 { E with nx := N, ct := N, bk := tz E })
    (hd : ∀ s H1, P ns.length s H1 → Go tz (env s) H1 E) : Go (tSeq (tFor (iList K tl) (gName j) tu) tz) ds H E := fun σ H1 e n =>
  hl σ H1 e n _ fun v H2 e2 hv => by
    obtain ⟨a, vs, rfl, ha, hi⟩ := hv
    have hvs := hi.ints
    subst hvs
    refine ⟨a, rfl, ⟨_, SqL.of ha⟩, for_list (xs := ns.map V.int) (fun i σ' H' => H' a = some (.lst (ns.map V.int)) ∧ ∃ s, P i s H' ∧ EnvOk H' σ' (env s)) ⟨ha, i0, h0 H2 (e.trans e2), by rw [he]; exact n.mono e2⟩ (fun i σ' H' _ p => SqL.of p.1) (fun i x σ' H' hx p => ?_) fun σ' H' p => ?_⟩
    · obtain ⟨ha', s, ps, n'⟩ := p
      rw [List.getElem?_map] at hx
      obtain ⟨m, hm, rfl⟩ : ∃ m, ns[i]? = some m ∧ V.int m = x := by
        cases e3 : ns[i]? with
        | none => rw [e3] at hx; cases hx
        | some m => rw [e3] at hx; exact ⟨m, rfl, Option.some.inj hx⟩
      exact hs i m s H' hm ps _ (fun s' σ2 H3 p3 fr n3 => ⟨fr a _ ha', s', p3, n3⟩) _ H' (Same.refl _) (n'.set (d := .int m) (v := .int m) rfl j)
    · obtain ⟨_, s, ps, n'⟩ := p
      rw [List.length_map] at ps
      exact hd s H' ps σ' H' (Same.refl _) n'
/-- sorted(d): a new list -/
theorem el_sortedDI {a : Addr} {kd : List (Key × D)} {ns : List Int} (h : DAt H a kd) (hk : kd.map (·.1) = ns.map Sum.inl) (hn : ns.length < 64) (ho : EvD ta ds H (.obj a)) : EvL (tCB rSortDI (tCons ta tNil)) ds H ((sortI ns).map D.int) := fun σ H1 e n Q k =>
  ho σ H1 e n _ fun v H2 e2 hv => by
    cases (show _ = _ from hv)
    obtain ⟨kvs, r, w⟩ := h.mono (e.trans e2)
    refine ⟨a, kvs, ns, rfl, r, by rw [w.keys, hk], hn, fun ys p pm pw hp => ?_⟩
    rw [sortI_of pm pw]
    exact k p _ _ (e2.free hp) (e2.trans (Ex.new hp)) upd_same (isL_ints _ _)
end
theorem ints_pure : ∀ ns : List Int, D.pureL (ns.map D.int) = true
  | [] => rfl
  | _ :: r => ints_pure r
/-! ### a promise of a new list -/
def lsp (Pre : Hp → List D → List D → Prop) : Sp := fun vs H Q _ => ∃ as xs, IsL H as vs ∧ Pre H as xs ∧ ∀ l ws H', H l = none → Ex H H' → H' l = some (.lst ws) → IsL H' xs ws → Q (.ref l) H'
theorem lsp_pr {Pre : Hp → List D → List D → Prop} {H : Hp} {as xs : List D} (h : ∀ H', Ex H H' → Pre H' as xs) : Pr (lsp Pre) H as (.lst xs) := fun H1 e vs hv Q E k => ⟨as, xs, hv, h H1 e, fun l ws H' _ e' h1 h2 => k _ H' e' ⟨l, ws, rfl, h1, h2⟩⟩
section
variable {K : PySem.W.Frag} {ds : List (Option D)} {H : Hp} {ta te : TE} {tr : TA} {E : Ends} {X : XK} {as xs : List D} {Pre : Hp → List D → List D → Prop}
theorem el_methL {C p dx : Addr} {m : Str} {fs : List (Str × V)} (ho : EvD ta ds H (.obj p)) (hi : H p = some (.ins C dx fs)) (hm : fs.lookup m = none) (h : EvA tr ds H as) (hp : ∀ H', Ex H H' → Pre H' (.obj p :: as) xs) : EvL (tMeth C m (lsp Pre) [] X ta tr) ds H xs := fun σ H1 e n Q k =>
  ho σ H1 e n _ fun x H2 e2 hx => ⟨p, dx, fs, hx, (e.trans e2) _ _ hi, hm, h σ H2 (e.trans e2) (n.mono e2) _ fun vs H3 e3 hv => by
    rw [List.append_nil]
    exact ⟨.obj p :: as, xs, .cons (hx.mono e3) hv, hp H3 ((e.trans e2).trans e3), fun l ws H' hl e' h1 h2 => k l ws H' ((e2.trans e3).free hl) ((e2.trans e3).trans e') h1 h2⟩⟩
theorem el_callL (h : EvA tr ds H as) (hp : ∀ H', Ex H H' → Pre H' as xs) : EvL (tCall (lsp Pre) [] X tr) ds H xs := fun σ H1 e n Q k =>
  h σ H1 e n _ fun vs H2 e2 hv => by
    rw [List.append_nil]
    exact ⟨as, xs, hv, hp H2 (e.trans e2), fun l ws H' hl e' h1 h2 => k l ws H' (e2.free hl) (e2.trans e') h1 h2⟩
theorem go_retL (h : EvL te ds H xs) (k : ∀ l ws H2, H l = none → Ex H H2 → H2 l = some (.lst ws) → IsL H2 xs ws → E.rt (.ref l) H2) : Go (tRet te) ds H E := fun σ H1 e n => h σ H1 e n _ fun l ws H2 hl e2 h1 h2 => k l ws H2 (e.free hl) (e.trans e2) h1 h2
theorem el_sortedI {ns : List Int} (h : EvD ta ds H (.lst (ns.map D.int))) : EvL (tCB (rSortedI K) (tCons ta tNil)) ds H ((sortI ns).map D.int) := fun σ H1 e n Q k =>
  h σ H1 e n _ fun v H2 e2 hv => by
    obtain ⟨p, us, rfl, hp, hu⟩ := hv
    rw [hu.ints] at hp
    refine ⟨p, ns, rfl, SqL.of hp, ?_⟩
    intro ns' l pm pw hl
    rw [sortI_of pm pw]
    exact k l _ _ (e2.free hl) (e2.trans (Ex.new hl)) upd_same (isL_ints _ _)
end
theorem mk_l {P : Program} {w : World} {K : PySem.W.Frag} {mg : Str → Option Value} {base : Heap} {k : Nat} {f : Addr} {ps N : List Str} {x qual : Str} {st : Stmt} {Pre : Hp → List D → List D → Prop} (F : Df K x qual st f ps) (S : FnScope N ps (defScope st)) (hlen : ∀ H as d, Pre H as d → as.length = ps.length) (hN : ps.length ≤ N.length)
    (hbody : ∀ (cdv : Value) (A : Around) (outer : List Env) (s : Shared) (H H0 : Hp) (Q : VK) (E : XK) (as xs : List D), Bd P w K mg base N qual (defScope st) f cdv A outer s H0 E k → Pre H as xs →
      (∀ l ws H', H l = none → Ex H H' → H' l = some (.lst ws) → IsL H' xs ws → Q (.ref l) H') → ∃ t, PSs (cxOf (L2.CX P w) P w K mg base N qual (defScope st) f cdv A outer s H0 E) (defBody st) t ∧ Go t (as.map some ++ List.replicate (N.length - as.length) none) H { nx := fun _ H' => Q .non H', rt := Q }) : Fk P w K mg base (k + 1) f ps (lsp Pre) := by
  refine mk_fk F S (fun vs H Q E h => ?_) fun cdv A outer s H vs Q E hr h => ?_
  · obtain ⟨as, d, hv, hp, _⟩ := h
    rw [hv.len, hlen H as d hp]
  · obtain ⟨as, d, hv, hp, k1⟩ := h
    obtain ⟨t, h1, h2⟩ := hbody cdv A outer s H H Q E as d (bd_of hr) hp k1
    exact ⟨t, h1, h2 _ H (Same.refl _) (start_env hv (by rw [hlen H as d hp]; exact hN))⟩
/-! ### what is in a thing -/
inductive Desc (h : HS) (n : Int) : Int → Prop where
  | self : Desc h n n
  | step {k p : Int} {r : Row} : get h.rows k = some r → r.par = some p → h.there k = true → Desc h n p → Desc h n k
open Classical in
noncomputable def HS.wholeL (h : HS) (n : Int) : List Int := (sortI h.keys).filter fun k => decide (Desc h n k)
theorem Desc.there {h : HS} {n k : Int} (hn : h.there n = true) (d : Desc h n k) : h.there k = true := by
  cases d with
  | self => exact hn
  | step _ _ ht _ => exact ht
open Classical in
theorem mem_whole {h : HS} {n k : Int} (hn : h.there n = true) : k ∈ h.wholeL n ↔ Desc h n k := by
  unfold HS.wholeL
  rw [List.mem_filter, mem_sortI]
  refine ⟨fun q => of_decide_eq_true q.2, fun q => ⟨?_, decide_eq_true q⟩⟩
  obtain ⟨r, hr⟩ := there_row (q.there hn)
  exact get_mem.mp (by rw [hr]; rfl)
def parOf (h : HS) (k : Int) : Option Int := (get h.rows k).bind Row.par
/-- a pass takes k up -/
def addB (h : HS) (fl : List Int) (k : Int) : Bool := !decide (k ∈ fl) && (oMem (parOf h k) fl && decide (get h.shelved k = none))
def Closed (h : HS) (fl : List Int) : Prop := ∀ k ∈ h.keys, addB h fl k = false
structure InW (h : HS) (n : Int) (fl : List Int) : Prop where
  nd : fl.Nodup
  me : n ∈ fl
  al : ∀ k ∈ fl, Desc h n k ∧ k ∈ h.keys
theorem oMem_some {o : Option Int} {ns : List Int} (h : oMem o ns = true) : ∃ p, o = some p ∧ p ∈ ns := by
  cases o with
  | none => cases h
  | some p => exact ⟨p, rfl, of_decide_eq_true h⟩
theorem shelved_there {h : HS} {k : Int} (hk : k ∈ h.keys) (hs : get h.shelved k = none) : h.there k = true := by
  unfold HS.there
  rw [get_mem.mpr hk, hs]
  rfl
theorem InW.add {h : HS} {n k : Int} {fl : List Int} (i : InW h n fl) (hk : k ∈ h.keys) (ha : addB h fl k = true) : InW h n (fl ++ [k]) := by
  unfold addB at ha
  rw [Bool.and_eq_true, Bool.and_eq_true] at ha
  obtain ⟨h1, h2, h3⟩ := ha
  have nk : k ∉ fl := by simpa using h1
  obtain ⟨p, hp, hm⟩ := oMem_some h2
  obtain ⟨r, hr⟩ := keys_row hk
  have hp' : r.par = some p := by
    unfold parOf at hp
    rw [hr] at hp
    exact hp
  refine ⟨List.nodup_append.mpr ⟨i.nd, by simp, fun a ha b hb => ?_⟩, List.mem_append_left _ i.me, fun x hx => ?_⟩
  · simp only [List.mem_cons, List.not_mem_nil, or_false] at hb
    rw [hb]
    exact fun q => nk (q ▸ ha)
  · rcases List.mem_append.mp hx with q | q
    · exact i.al x q
    · simp only [List.mem_cons, List.not_mem_nil, or_false] at q
      rw [q]
      exact ⟨.step hr hp' (shelved_there hk (of_decide_eq_true h3)) (i.al p hm).1, hk⟩
theorem desc_in {h : HS} {n : Int} {fl : List Int} (i : InW h n fl) (c : Closed h fl) (hn : h.there n = true) : ∀ {k : Int}, Desc h n k → k ∈ fl := by
  intro k d
  induction d with
  | self => exact i.me
  | @step k p r hr hp ht _ ih =>
    by_cases q : k ∈ fl
    · exact q
    · have hk : k ∈ h.keys := get_mem.mp (by rw [hr]; rfl)
      have := c k hk
      unfold addB at this
      have hs : get h.shelved k = none := by
        unfold HS.there at ht
        have := (Bool.and_eq_true_iff.mp ht).2
        simpa using this
      have hpo : parOf h k = some p := by
        unfold parOf
        rw [hr]
        exact hp
      rw [hpo, hs, decide_eq_false q] at this
      simp [oMem, ih] at this
theorem whole_eq {h : HS} {n : Int} {fl : List Int} (kn : h.keys.Nodup) (i : InW h n fl) (c : Closed h fl) (hn : h.there n = true) : sortI fl = h.wholeL n := by
  refine sorted_unique ((List.perm_ext_iff_of_nodup ((sortI_perm fl).nodup_iff.mpr i.nd) ((((sortI_perm h.keys).nodup_iff.mpr kn)).filter _)).mpr fun k => ?_) (sortI_pw _) ((sortI_pw _).filter _)
  rw [mem_sortI]
  exact ⟨fun q => (mem_whole hn).mpr (i.al k q).1, fun q => desc_in i c hn ((mem_whole hn).mp q)⟩
theorem sub_lenI : ∀ {a b : List Int}, a.Nodup → (∀ k ∈ a, k ∈ b) → a.length ≤ b.length
  | [], _, _, _ => Nat.zero_le _
  | x :: a, b, hn, hs => by
    have hx : x ∈ b := hs x (by simp)
    have h1 := sub_lenI (a := a) (b := b.erase x) (List.nodup_cons.mp hn).2 fun k hk => by
      have hne : k ≠ x := fun q => (List.nodup_cons.mp hn).1 (q ▸ hk)
      exact (List.mem_erase_of_ne hne).mpr (hs k (by simp [hk]))
    have h2 := List.length_erase_of_mem hx
    have h3 : 0 < b.length := List.length_pos_of_mem hx
    simp only [List.length_cons]
    omega
def sp_House_whole (K : PySem.W.Frag) : Sp := lsp fun H as d => ∃ p F h n, as = [.obj p, .int n] ∧ HRd (hC K) H p F h ∧ h.there n = true ∧ h.rows.length < 64 ∧ h.keys.Nodup ∧ d = (h.wholeL n).map D.int
theorem ok_House_whole {P : Program} {w : World} {K : PySem.W.Frag} {mg : Str → Option Value} {base : Heap} (S : Says K mg) : Fk P w K mg base 1 (He.fAd K ("House", some "whole")) ["self", "number"] (sp_House_whole K) := by
  refine mk_l S.df_House_whole sc_House_whole ?_ (by decide) fun cdv A outer s H H0 Q E as d bd hp k => ?_
  · rintro H as d ⟨p, F, h, n, rfl, _⟩
    rfl
  · obtain ⟨p, F, h, n, rfl, x, ht, hl, kn, rfl⟩ := hp
    obtain ⟨hr, tk, px, hu, hu65⟩ := bd
    refine ⟨_, (pss_cons (ps_set (i := 2) sc_House_whole.nd rfl (Or.inl rfl) (pe_lst (pa_cons (pv 1) pa_nil)))
      (pss_cons (ps_set (i := 3) sc_House_whole.nd rfl (Or.inl rfl) (pe_int))
      (pss_cons (ps_set (i := 4) sc_House_whole.nd rfl (Or.inl rfl) (pe_dget2 hu (pe_fld (pv 0) rfl) (pv 1) (pe_non) ⟨rfl, rfl, rfl, rfl⟩))
      (pss_cons (ps_while (passes_of rfl) (pt_cmpR op_ne (pe_callB call_len_seq (by rfl) S.free_len (by decide +kernel) (pa_cons (pv 2) pa_nil)) (pv 3) (nomark _)) (pss_cons (ps_set (i := 3) sc_House_whole.nd rfl (Or.inl rfl) (pe_callB call_len_seq (by rfl) S.free_len (by decide +kernel) (pa_cons (pv 2) pa_nil)))
      (pss_one (ps_for (passes_of rfl) rfl (pi_list (pe_callB (call_sortedDI rfl) (by rfl) S.free_sorted (by decide +kernel) (pa_cons (pe_fld (pv 0) rfl) pa_nil))) (pg_name (i := 5) sc_House_whole.nd rfl (Or.inl rfl)) (pss_one (ps_if (PW.pt (pw_and (pt_cmpR op_notIn_seq (pv 5) (pv 2) rfl) (pw_and (pt_cmpR op_in_seq (pe_ix ix_tup (pe_dget hu (pe_fld (pv 0) rfl) (pv 5) (fun _ _ => rfl)) (pe_int) (fun _ _ => rfl)) (pv 2) rfl) (pw_and1 (pt_cmpR op_eq (pe_dget2 hu (pe_fld (pv 0) rfl) (pv 5) (pe_non) ⟨rfl, rfl, rfl, rfl⟩) (pv 4) (nomark _)))))) (pss_one (ps_expr (pe_bm PySem.F.plainAttrs_list PySem.F.slot_list_append PySem.F.type_list_append mt_append (pv 2) (pa_cons (pv 5) pa_nil)))) pss_nil))))))
      (pss_one (ps_ret (pe_callB cr_sortedI (by rfl) S.free_sorted (by decide +kernel) (pa_cons (pv 2) pa_nil)))))))), ?_⟩
    have hs0 : get h.shelved n = none := by
      unfold HS.there at ht
      have := (Bool.and_eq_true_iff.mp ht).2
      simpa using this
    obtain ⟨r0, hr0⟩ := there_row ht
    have hnk : n ∈ h.keys := get_mem.mp (by rw [hr0]; rfl)
    have hkl : h.keys.length < 64 := by unfold HS.keys; rw [List.length_map]; exact hl
    refine go_asgNew (el_lst (xs := [.int n]) (ea_cons (ev_var rfl) ea_nil) (by simp)) fun l vs H2 hn2 e2 hv hi => ?_
    have hvs : vs = [V.int n] := hi.ints (ns := [n])
    subst hvs
    refine go_asg ev_int ?_
    refine go_asg (ev_is (ev_dget2 (k := Sum.inl n) (e_shelved S (x.mono e2) (ev_var rfl)) (ev_var rfl) ev_non (x.mono e2).sh) (d' := .non) (by rw [kds_get, hs0]; rfl)) ?_
    refine go_while (ι := List Int × Int) (fun s H' => Ex H H' ∧ H' l = some (.lst (s.1.map V.int)) ∧ InW h n s.1 ∧ ((s.1.length : Int) = s.2 → Closed h s.1)) (fun s => [some (.obj p), some (.int n), some (.obj l), some (.int s.2), some .non, none]) (fun s => 2 * (h.keys.length - s.1.length) + (if (s.1.length : Int) = s.2 then 0 else 1)) ([n], 0) rfl (fun H' e => ⟨e2.trans e, e _ _ hv, ⟨by simp, by simp, fun k hk => ?_⟩, fun q => by simp at q⟩) fun s H1 ps => ?_
    · simp only [List.mem_cons, List.not_mem_nil, or_false] at hk
      rw [hk]
      exact ⟨.self, hnk⟩
    obtain ⟨fl, m⟩ := s
    obtain ⟨ex, hf, iw, hcl⟩ := ps
    dsimp only at hf iw hcl ⊢
    have isL : Is H1 (.lst (fl.map D.int)) (.ref l) := ⟨l, _, rfl, hf, isL_ints _ _⟩
    have fl_le : fl.length ≤ h.keys.length := sub_lenI iw.nd fun k hk => (iw.al k hk).2
    refine ⟨!decide ((fl.length : Int) = m), eb_is (eb_test (ev_op (ev_cb (ea_cons (ev_as (ev_var rfl) isL) ea_nil) cl_lenL) (ev_var rfl) (op_neF rfl rfl rfl))) (by rw [dec_int_val, List.length_map]), fun hb N hN => ?_, fun hb => ?_⟩
    · have hne : ¬ (fl.length : Int) = m := by simpa using hb
      refine go_asg (x := .int fl.length) (ev_is (ev_cb (ea_cons (ev_as (ev_var rfl) isL) ea_nil) cl_lenL) (by rw [List.length_map])) ?_
      have x1 := x.mono ex
      refine go_last (go_forN (ι := List Int) (ns := sortI h.keys) [l] (fun b hb => by rw [List.mem_singleton.mp hb, hf]; exact fun z => by cases z) (el_sortedDI x1.rw kds_keys (by show (h.rows.map (·.1)).length < 64; rw [List.length_map]; exact hl) (e_rows S x1 (ev_var rfl)))
        (fun i gl H' => Ex H H' ∧ H' l = some (.lst (gl.map V.int)) ∧ InW h n gl ∧ fl.length ≤ gl.length ∧ (gl.length = fl.length → gl = fl ∧ ∀ k ∈ (sortI h.keys).take i, addB h fl k = false)) (fun _ => [some (.obj p), some (.int n), some (.obj l), some (.int fl.length), some .non, none]) fl rfl (fun H' e => ⟨ex.trans e, e _ _ hf, iw, Nat.le_refl _, fun _ => ⟨rfl, fun k hk => by simp at hk⟩⟩) (fun i k gl H2 hk pg M hM => ?_) (fun gl H2 pg => ?_))
      · obtain ⟨ex2, hg, ig, le, hc2⟩ := pg
        have x2 := x.mono ex2
        have hkk : k ∈ h.keys := mem_sortI.mp (List.mem_of_getElem? hk)
        obtain ⟨r, hr'⟩ := keys_row hkk
        have isG : Is H2 (.lst (gl.map D.int)) (.ref l) := ⟨l, _, rfl, hg, isL_ints _ _⟩
        have gl_le : gl.length ≤ h.keys.length := sub_lenI ig.nd fun k hk => (ig.al k hk).2
        refine go_if (b := addB h gl k) (eb_is (eb_and (b := !decide (k ∈ gl)) ?_ fun _ => eb_and (b := oMem (parOf h k) gl) (c := decide (get h.shelved k = none)) ?_ fun _ => ?_) rfl) (fun hb => ?_) (fun hb => ?_)
        · refine eb_is (eb_test (ev_op (ev_var rfl) (ev_as (ev_var rfl) isG) (op_inL rfl (ints_flat _)))) ?_
          rw [ints_val]
          show (!inV (oI (some k)).val _) = _
          rw [inV_ints]
          rfl
        · refine eb_is (eb_test (ev_op (e_par S x2 (ev_var rfl) (ev_var rfl) hr') (ev_as (ev_var rfl) isG) (op_inL (oI_flat _) (ints_flat _)))) ?_
          rw [ints_val]
          show inV (oI r.par).val _ = _
          rw [inV_ints]
          unfold parOf
          rw [hr']
          rfl
        · refine eb_is (eb_test (ev_op (ev_is (ev_dget2 (k := Sum.inl k) (e_shelved S x2 (ev_var rfl)) (ev_var rfl) ev_non x2.sh) (d' := oI (get h.shelved k)) (by rw [kds_get]; cases get h.shelved k <;> rfl)) (ev_var rfl) (op_eqF (oI_flat _) rfl (oI_scal _ none)))) ?_
          rw [show D.val .non = (oI none).val from rfl, oI_val]
        · have ig2 := ig.add hkk hb
          refine go_last (go_append (xs := gl.map D.int) hg (isL_ints _ _) (by rw [List.length_map]; omega) (ints_pure gl) rfl rfl (ev_var rfl) (ev_var rfl) fun u H3 b3 hg3 il3 => ?_)
          have hu3 : gl.map V.int ++ [u] = (gl ++ [k]).map V.int := by
            have := IsL.ints (ns := gl ++ [k]) (H := H3) (vs := gl.map V.int ++ [u]) (by rw [List.map_append]; exact il3)
            exact this
          rw [hu3] at hg3
          refine go_next fun σ H4 e4 n4 => hM (gl ++ [k]) σ H4 ⟨(ex2.but hn2 b3).trans e4, e4 _ _ hg3, ig2, by simp; omega, fun q => by simp at q; omega⟩ (fun b o hb nb => e4 _ _ (b3 b o hb fun z => nb (by rw [z]; simp))) (n4.forget 5)
        · refine go_next fun σ H4 e4 n4 => hM gl σ H4 ⟨ex2.trans e4, e4 _ _ hg, ig, le, fun q => ⟨(hc2 q).1, fun k' hk' => ?_⟩⟩ (Fr.of_ex e4) (n4.forget 5)
          rw [List.take_succ, hk] at hk'
          rcases List.mem_append.mp hk' with z | z
          · exact (hc2 q).2 k' z
          · simp at z
            rw [z, ← (hc2 q).1]
            exact hb
      · obtain ⟨ex2, hg, ig, le, hc2⟩ := pg
        have gl_le : gl.length ≤ h.keys.length := sub_lenI ig.nd fun k hk => (ig.al k hk).2
        refine go_next fun σ H4 e4 n4 => hN (gl, fl.length) σ H4 ⟨ex2.trans e4, e4 _ _ hg, ig, fun q => ?_⟩ ?_ n4
        · have q' : gl.length = fl.length := by
            have : (gl.length : Int) = (fl.length : Int) := q
            omega
          obtain ⟨rfl, h2⟩ := hc2 q'
          rw [List.take_length] at h2
          exact fun k hk => h2 k (mem_sortI.mpr hk)
        · show 2 * (h.keys.length - gl.length) + (if (gl.length : Int) = (fl.length : Int) then 0 else 1) < 2 * (h.keys.length - fl.length) + (if (fl.length : Int) = m then 0 else 1)
          rw [if_neg hne]
          by_cases q : gl.length = fl.length
          · rw [if_pos (by omega)]
            omega
          · rw [if_neg (by omega)]
            omega
    · have hm : (fl.length : Int) = m := by simpa using hb
      have hse := whole_eq kn iw (hcl hm) ht
      refine go_retL (el_sortedI (ev_as (ev_var rfl) isL)) fun l2 ws H4 hl4 e4 h4 hi4 => k l2 ws H4 (ex.free hl4) (ex.trans e4) h4 (by rw [← hse]; exact hi4)
theorem e_whole {K : PySem.W.Frag} {H : Hp} {p : Addr} {F : Foot} {h : HS} {n : Int} {ds : List (Option D)} {ta tn : TE} {X : XK} (x : HRd (hC K) H p F h) (ht : h.there n = true) (hl : h.rows.length < 64) (kn : h.keys.Nodup) (ho : EvD ta ds H (.obj p)) (hn : EvD tn ds H (.int n)) :
    EvD (tMeth (hC K) "whole" (sp_House_whole K) [] X ta (tCons tn tNil)) ds H (.lst ((h.wholeL n).map D.int)) := ev_meth ho x.ob rfl (ea_cons hn ea_nil) (lsp_pr fun H' e => ⟨p, F, h, n, rfl, x.mono e, ht, hl, kn, rfl⟩)
/-! ### move -/
noncomputable def HS.moveO (h : HS) (n : Int) (par : Option Int) : Out :=
  if h.there n = true then if h.noBox par = true then .err "NoBox" else if oMem par (h.wholeL n) = true then .err "Inside" else match get h.rows n with
    | some r => if r.name ∈ h.namesIn par (some n) then .err "Taken" else .ok .non { h with rows := put h.rows n { r with par := par } }
    | none => .err "NoThing"
  else .err "NoThing"
def sp_House_move (K : PySem.W.Frag) : Sp := wsp K fun h as o => ∃ n par, as = [.int n, oI par] ∧ h.rows.length < 64 ∧ h.keys.Nodup ∧ o = h.moveO n par
theorem ok_House_move {P : Program} {w : World} {K : PySem.W.Frag} {mg : Str → Option Value} {base : Heap} (S : Says K mg) : Fk P w K mg base 4 (He.fAd K ("House", some "move")) ["self", "number", "parent"] (sp_House_move K) := by
  have G_House_must_be_free := ok_House_must_be_free (P := P) (w := w) (base := base) S
  have G_House_whole := ok_House_whole (P := P) (w := w) (base := base) S
  have G_House_must_box := ok_House_must_box (P := P) (w := w) (base := base) S
  have G_House_must := ok_House_must (P := P) (w := w) (base := base) S
  refine mk_w S.df_House_move sc_House_move ?_ (by decide) fun cdv A outer s H H0 Q E p F h as o bd pa x hp k1 k2 => ?_
  · rintro h as o ⟨n, par, rfl, _⟩
    rfl
  · obtain ⟨n, par, rfl, hl, kn, rfl⟩ := hp
    obtain ⟨hr, tk, px, hu, hu65⟩ := bd
    refine ⟨_, (pss_cons (ps_expr (pe_mt (pv 0) S.cls_House S.meth_must G_House_must (hr.mono (by decide)) px (pa_cons (pv 1) pa_nil)))
      (pss_cons (ps_expr (pe_mt (pv 0) S.cls_House S.meth_must_box G_House_must_box (hr.mono (by decide)) px (pa_cons (pv 2) pa_nil)))
      (pss_cons (ps_if (pt_cmpR op_in_seq (pv 2) (pe_mt (pv 0) S.cls_House S.meth_whole G_House_whole (hr.mono (by decide)) px (pa_cons (pv 1) pa_nil)) rfl) (pss_one (ps_raise rfl tk (pmk_own PySem.F.excBase_ValueError S.exc_Inside.1 S.glo_Inside S.exc_Inside.2.1 (raises_own S.exc_Inside.2.2.1 S.exc_Inside.2.2.2) (by rfl)))) pss_nil)
      (pss_cons (ps_asg (pe_dget hu (pe_fld (pv 0) rfl) (pv 1) (fun _ _ => rfl)) (pg_tup rfl (pgs_cons (pg_name (i := 3) sc_House_move.nd rfl (Or.inl rfl)) (pgs_cons (pg_name (i := 4) sc_House_move.nd rfl (Or.inl rfl)) (pgs_cons (pg_name (i := 5) sc_House_move.nd rfl (Or.inl rfl)) pgs_nil)))))
      (pss_cons (ps_expr (pe_mt (pv 0) S.cls_House S.meth_must_be_free G_House_must_be_free (hr.mono (by decide)) px (pa_cons (pv 2) (pa_cons (pv 4) (pa_cons (pv 1) pa_nil)))))
      (pss_one (ps_dput hu (pe_fld (pv 0) rfl) (pv 1) (pe_tup (pa_cons (pv 2) (pa_cons (pv 4) (pa_cons (pv 5) pa_nil)))) rfl))))))), ?_⟩
    refine go_doX (e_must x.rd (ev_var rfl) (ev_var rfl)) (fun d hd => ?_) (fun y hy H2 e2 => ?_)
    · have ht := mustR_ok hd
      obtain ⟨r, hr'⟩ := there_row ht
      refine go_doX (e_box x.rd (ev_var rfl) (ev_var rfl)) (fun d hd => ?_) (fun y hy H2 e2 => ?_)
      · have hnb : ¬ h.noBox par = true := by
          unfold HS.boxR at hd
          split at hd
          · cases hd
          · assumption
        refine go_when (b := oMem par (h.wholeL n)) (eb_is (eb_test (ev_op (ev_var rfl) (e_whole x.rd ht hl kn (ev_var rfl) (ev_var rfl)) (op_inL (oI_flat _) (ints_flat _)))) (by rw [ints_val]; exact inV_ints _ _)) (fun c => ?_) (fun c => ?_)
        · exact go_raise (x := "Inside") fun H1 e => k2 _ (by unfold HS.moveO; rw [if_pos ht, if_neg hnb, if_pos c]) H1 e
        · have c' : ¬ oMem par (h.wholeL n) = true := by rw [c]; exact Bool.false_ne_true
          refine go_un3 (e_row S x.rd (ev_var rfl) (ev_var rfl) hr') ?_
          refine go_doX (e_free (but := some n) x hl (ev_var rfl) (ev_var rfl) (ev_var rfl) (ev_var rfl)) (fun d hd => ?_) (fun y hy H2 e2 => ?_)
          · have hnf : ¬ r.name ∈ h.namesIn par (some n) := by
              unfold HS.freeR at hd
              split at hd
              · cases hd
              · assumption
            refine put_end (go_rowput (n := n) (r := { r with par := par }) x (by omega) (ev_tup (ea_cons (ev_var rfl) (ea_cons (ev_var rfl) (ea_cons (ev_var rfl) ea_nil))) (by simp)) (e_rows S x.rd (ev_var rfl)) (ev_var rfl) (by cases par <;> cases r.par <;> cases r.text <;> rfl) fun H2 x2 r2 => ?_)
            exact go_next fun σ H3 e3 n3 => k1 .non _ (by unfold HS.moveO; rw [if_pos ht, if_neg hnb, if_neg c', hr']; dsimp only; rw [if_neg hnf]) _ H3 F (x2.mono e3) (r2.trans_ex e3) Fresh.refl rfl
          · have hf : r.name ∈ h.namesIn par (some n) ∧ y = "Taken" := by
              unfold HS.freeR at hy
              split at hy
              · rename_i c; cases hy; exact ⟨c, rfl⟩
              · cases hy
            obtain ⟨hf, rfl⟩ := hf
            exact k2 _ (by unfold HS.moveO; rw [if_pos ht, if_neg hnb, if_neg c', hr']; dsimp only; rw [if_pos hf]) H2 e2
      · have hb : h.noBox par = true ∧ y = "NoBox" := by
          unfold HS.boxR at hy
          split at hy
          · rename_i c; cases hy; exact ⟨c, rfl⟩
          · cases hy
        obtain ⟨hb, rfl⟩ := hb
        exact k2 _ (by unfold HS.moveO; rw [if_pos ht, if_pos hb]) H2 e2
    · obtain ⟨c, rfl⟩ := mustR_err hy
      exact k2 _ (by unfold HS.moveO; rw [if_neg (by rw [c]; exact Bool.false_ne_true)]) H2 e2
end Cs
set_option Elab.async false
set_option linter.all false
set_option maxRecDepth 100000
set_option maxHeartbeats 4000000
namespace Cs
open PySem PySem.Spec PyProof.Rows L2
/-! ### the state, written -/
def SFresh (q : Addr) (H : Hp) (G G' : SFoot) : Prop := ∀ b ∈ sfp q G', b ∈ sfp q G ∨ H b = none
theorem SFresh.refl {q : Addr} {H : Hp} {G : SFoot} : SFresh q H G G := fun b h => .inl h
theorem SFresh.ex {q : Addr} {H H1 : Hp} {G G' : SFoot} (e : Ex H H1) (b : SFresh q H1 G G') : SFresh q H G G' := fun c hc => by
  rcases b c hc with w | w
  · exact .inl w
  · exact .inr (e.free w)
theorem SFresh.trans {q : Addr} {G G1 G2 : SFoot} {H H1 : Hp} (a : SFresh q H G G1) (r : Fr (sfp q G) H H1) (b : SFresh q H1 G1 G2) : SFresh q H G G2 := fun c hc => by
  rcases b c hc with w | w
  · exact a c w
  · by_cases h : c ∈ sfp q G
    · exact .inl h
    · refine .inr ?_
      cases e : H c with
      | none => rfl
      | some o =>
        rw [r c o e h] at w
        cases w
theorem Fr.strans {q : Addr} {G G1 : SFoot} {H H1 H2 : Hp} (a : Fr (sfp q G) H H1) (n : SFresh q H G G1) (b : Fr (sfp q G1) H1 H2) : Fr (sfp q G) H H2 := fun c o h nc => b c o (a c o h nc) fun hc => by
  rcases n c hc with w | w
  · exact nc w
  · rw [w] at h
    cases h
section
variable {q : Addr} {H H' : Hp} {G : SFoot} {s : LS}
theorem SAt.casts_ (x : SAt H q G s) : ∃ vs, H G.casts = some (.lst vs) ∧ IsL H (s.casts.map pairD) vs := by
  obtain ⟨a, vs, e, w, r⟩ := x.ca
  cases e
  exact ⟨vs, w, r⟩
theorem SAt.ties_ (x : SAt H q G s) : ∃ vs, H G.ties = some (.lst vs) ∧ IsL H (s.ties.map pairD) vs := by
  obtain ⟨a, vs, e, w, r⟩ := x.ti
  cases e
  exact ⟨vs, w, r⟩
theorem SAt.not_tup (x : SAt H q G s) {b : Addr} {vs : List V} (hb : H b = some (.tup vs)) : b ∉ sfp q G := fun hm => by
  obtain ⟨k1, e1, _⟩ := x.ob
  obtain ⟨k2, e2, _⟩ := x.rw
  obtain ⟨k3, e3, _⟩ := x.casts_
  obtain ⟨k4, e4, _⟩ := x.ties_
  simp only [sfp, List.mem_cons, List.not_mem_nil, or_false] at hm
  rcases hm with rfl | rfl | rfl | rfl
  · rw [e1] at hb; cases hb
  · rw [e2] at hb; cases hb
  · rw [e3] at hb; cases hb
  · rw [e4] at hb; cases hb
theorem SAt.sfp_some (x : SAt H q G s) {b : Addr} (hm : b ∈ sfp q G) : H b ≠ none := fun hb => by
  obtain ⟨k1, e1, _⟩ := x.ob
  obtain ⟨k2, e2, _⟩ := x.rw
  obtain ⟨k3, e3, _⟩ := x.casts_
  obtain ⟨k4, e4, _⟩ := x.ties_
  simp only [sfp, List.mem_cons, List.not_mem_nil, or_false] at hm
  rcases hm with rfl | rfl | rfl | rfl
  · rw [e1] at hb; cases hb
  · rw [e2] at hb; cases hb
  · rw [e3] at hb; cases hb
  · rw [e4] at hb; cases hb
theorem SAt.keepE {σ : L2.St} {ds : List (Option D)} (x : SAt H q G s) (r : Fr (sfp q G) H H') (pd : pureE ds = true) (hd : EnvOk H σ ds) : EnvOk H' σ ds := hd.tups (fun a vs w => r a _ w (x.not_tup w)) pd
theorem SAt.keep {d : D} {v : V} (x : SAt H q G s) (r : Fr (sfp q G) H H') (pd : d.pure = true) (hd : Is H d v) : Is H' d v := hd.tups (fun a vs w => r a _ w (x.not_tup w)) pd
theorem sup_fr {a : Addr} {o : HO} (ha : a ∈ sfp q G) : Fr (sfp q G) H (upd H a o) := fun b u e n => by
  rw [upd_ne (fun (w : b = a) => n (by rw [w]; exact ha))]
  exact e
theorem DOn.upd_other {a b : Addr} {kvs : List (Key × V)} {o : HO} {kd : List (Key × D)} (ha : H a = some (.dK kvs)) (hab : b ≠ a) (h : DOn H b kd) : DOn (upd H a o) b kd := by
  obtain ⟨kv, e, w⟩ := h
  exact ⟨kv, by rw [upd_ne hab]; exact e, w.upd_dK ha⟩
theorem SAt.st_rows (x : SAt H q G s) {kvs kvs' : List (Key × V)} {rows' : List (Int × LRow)} (hk : H G.rows = some (.dK kvs)) (hi : DictIs H (kds LRow.d rows') kvs') : SAt (upd H G.rows (.dK kvs')) q G { s with rows := rows' } :=
  ⟨x.ob.upd_other hk x.n1, ⟨kvs', upd_same, hi.upd_dK hk⟩, x.ca.upd_dK hk, x.ti.upd_dK hk, x.n1, x.n2⟩
theorem SAt.st_ob (x : SAt H q G s) {kvs kvs' : List (Key × V)} {s' : LS} (hk : H q = some (.dK kvs)) (hi : DictIs H (stD G s') kvs') (h1 : s'.rows = s.rows) (h2 : s'.casts = s.casts) (h3 : s'.ties = s.ties) : SAt (upd H q (.dK kvs')) q G s' :=
  ⟨⟨kvs', upd_same, hi.upd_dK hk⟩, by rw [h1]; exact x.rw.upd_other hk x.n1.symm, by rw [h2]; exact x.ca.upd_dK hk, by rw [h3]; exact x.ti.upd_dK hk, x.n1, x.n2⟩
end
def swsp (K : PySem.W.Frag) (Pre : LS → List D → D → LS → Prop) : Sp := fun vs H Q _ => ∃ q G s as d s', IsL H (.obj q :: as) vs ∧ D.pureL as = true ∧ SAt H q G s ∧ Pre s as d s' ∧
  ∀ v H' G', SAt H' q G' s' → Fr (sfp q G) H H' → SFresh q H G G' → Is H' d v → Q v H'
section
variable {P : Program} {w : World} {K : PySem.W.Frag} {mg : Str → Option Value} {base : Heap} {k : Nat} {f : Addr} {ps N : List Str} {x qual : Str} {st : Stmt}
theorem mk_s {Pre : LS → List D → D → LS → Prop} (F : Df K x qual st f ps) (S : FnScope N ps (defScope st)) (hlen : ∀ s as d s', Pre s as d s' → as.length + 1 = ps.length) (hN : ps.length ≤ N.length)
    (hbody : ∀ (cdv : Value) (A : Around) (outer : List Env) (sh : Shared) (H H0 : Hp) (Q : VK) (E : XK) (q : Addr) (G : SFoot) (s : LS) (as : List D) (d : D) (s' : LS), Bd P w K mg base N qual (defScope st) f cdv A outer sh H0 E k → D.pureL as = true → SAt H q G s → Pre s as d s' →
      (∀ v H' G', SAt H' q G' s' → Fr (sfp q G) H H' → SFresh q H G G' → Is H' d v → Q v H') →
      ∃ t, PSs (cxOf (L2.CX P w) P w K mg base N qual (defScope st) f cdv A outer sh H0 E) (defBody st) t ∧ Go t (some (.obj q) :: (as.map some ++ List.replicate (N.length - (as.length + 1)) none)) H { nx := fun _ H' => Q .non H', rt := Q }) : Fk P w K mg base (k + 1) f ps (swsp K Pre) := by
  refine mk_fk F S (fun vs H Q E h => ?_) fun cdv A outer s H vs Q E hr h => ?_
  · obtain ⟨q, G, s, as, d, s', hv, pa, x, hp, _⟩ := h
    rw [hv.len]
    exact hlen s as d s' hp
  · obtain ⟨q, G, s1, as, d, s', hv, pa, x, hp, k1⟩ := h
    obtain ⟨t, h1, h2⟩ := hbody cdv A outer s H H Q E q G s1 as d s' (bd_of hr) pa x hp k1
    exact ⟨t, h1, h2 _ H (Same.refl _) (start_env hv (by show as.length + 1 ≤ N.length; rw [hlen s1 as d s' hp]; exact hN))⟩
end
section
variable {K : PySem.W.Frag} {ds : List (Option D)} {H : Hp} {ta tb te tv : TE} {tr : TA} {tz : TS} {E : Ends} {q : Addr} {G : SFoot} {s s' : LS} {X : XK}
/-- state["f"] = e, a plain one -/
theorem go_sput {f : Str} {n : Int} (x : SAt H q G s) (hv : EvD tv ds H (.int n)) (hd : EvD ta ds H (.obj q)) (pe : pureE ds = true) (hf : putD (stD G s) (Sum.inr f) (.int n) = stD G s') (h1 : s'.rows = s.rows) (h2 : s'.casts = s.casts) (h3 : s'.ties = s.ties)
    (k : ∀ H2, SAt H2 q G s' → Fr (sfp q G) H H2 → Go tz ds H2 E) : Go (tSeq (sDPut ta (tC (.str f)) tv) tz) ds H E := fun σ H1 e nn =>
  hv σ H1 e nn _ fun v H2 e2 hv' => hd σ H2 (e.trans e2) (nn.mono e2) _ fun y H3 e3 hy => by
    have ee := (e.trans e2).trans e3
    have x4 := x.mono ee
    obtain ⟨kvs, hkv, hi⟩ := x4.ob
    have fr : Fr (sfp q G) H3 (upd H3 q (.dK (putK kvs (Sum.inr f) v))) := sup_fr (by simp [sfp])
    refine ⟨q, _, hy, .inl ⟨kvs, Sum.inr f, hkv, rfl, ?_, rfl⟩, ?_⟩
    · rw [hi.len]
      show 7 < sizeLine
      decide
    · refine k _ (x4.st_ob hkv ?_ h1 h2 h3) (Fr.ex_trans ee fr) σ _ (Same.refl _) (x4.keepE fr pe ((nn.mono e2).mono e3))
      rw [← hf]
      exact hi.put (hv'.mono e3)
/-- state["rows"][n] = e -/
theorem go_srow {n : Int} {r : LRow} (x : SAt H q G s) (hl : s.rows.length < 100000) (hv : EvD tv ds H r.d) (hd : EvD ta ds H (.obj G.rows)) (hk : EvD tb ds H (.int n)) (pe : pureE ds = true)
    (k : ∀ H2, SAt H2 q G { s with rows := put s.rows n r } → Fr (sfp q G) H H2 → Go tz ds H2 E) : Go (tSeq (sDPut ta tb tv) tz) ds H E := fun σ H1 e nn =>
  hv σ H1 e nn _ fun v H2 e2 hv' => hd σ H2 (e.trans e2) (nn.mono e2) _ fun y H3 e3 hy => hk σ H3 ((e.trans e2).trans e3) ((nn.mono e2).mono e3) _ fun z H4 e4 hz => by
    have ee := ((e.trans e2).trans e3).trans e4
    have x4 := x.mono ee
    obtain ⟨kvs, hkv, hi⟩ := x4.rw
    have fr : Fr (sfp q G) H4 (upd H4 G.rows (.dK (putK kvs (Sum.inl n) v))) := sup_fr (by simp [sfp])
    refine ⟨G.rows, _, hy, .inl ⟨kvs, Sum.inl n, hkv, hz, ?_, rfl⟩, ?_⟩
    · rw [hi.len, kds_len]
      exact Nat.lt_trans hl (by decide)
    · refine k _ (x4.st_rows hkv ?_) (Fr.ex_trans ee fr) σ _ (Same.refl _) (x4.keepE fr pe (((nn.mono e2).mono e3).mono e4))
      rw [← kds_put]
      exact hi.put (hv'.mono (e3.trans e4))
/-- a deed of the state, as a value -/
theorem w_s {Pre : LS → List D → D → LS → Prop} {as : List D} {d : D} {σ : L2.St} {H1 : Hp} {Q : VK} (x : SAt H q G s) (ha : EvA tr ds H (.obj q :: as)) (pa : D.pureL as = true) (hp : Pre s as d s') (e : Ex H H1) (n : EnvOk H1 σ ds)
    (k1 : ∀ v H2 G', SAt H2 q G' s' → Fr (sfp q G) H1 H2 → SFresh q H1 G G' → Is H2 d v → Q v H2) : tCall (swsp K Pre) [] X tr σ H1 Q :=
  ha σ H1 e n _ fun vs H2 e2 hv => by
    rw [List.append_nil]
    exact ⟨q, G, s, as, d, s', hv, pa, x.mono (e.trans e2), hp, fun v H3 G' y r f hd => k1 v H3 G' y (Fr.ex_trans e2 r) (SFresh.ex e2 f) hd⟩
theorem go_retS {Pre : LS → List D → D → LS → Prop} {as : List D} {d : D} (x : SAt H q G s) (ha : EvA tr ds H (.obj q :: as)) (pa : D.pureL as = true) (hp : Pre s as d s')
    (k1 : ∀ v H2 G', SAt H2 q G' s' → Fr (sfp q G) H H2 → SFresh q H G G' → Is H2 d v → E.rt v H2) : Go (tRet (tCall (swsp K Pre) [] X tr)) ds H E := fun σ H1 e n =>
  w_s x ha pa hp e n fun v H2 G' y r f hd => k1 v H2 G' y (Fr.ex_trans e r) (SFresh.ex e f) hd
end
/-! ### _law_make -/
def LS.makeS (s : LS) (par : Option Int) (nm : Str) (b : Bool) : D × LS :=
  if s.noBox par = true then (.str "no box", s) else if nm ∈ s.names par none then (.str "taken", s) else (.int (s.count + 1), { s with count := s.count + 1, rows := put s.rows (s.count + 1) ⟨⟨par, nm, if b then none else some ""⟩, none⟩ })
def sp_law_make (K : PySem.W.Frag) : Sp := swsp K fun s as d s' => ∃ par nm b, as = [.tup [oI par, .str nm, .bl b]] ∧ s.rows.length < 64 ∧ (d, s') = s.makeS par nm b
theorem ok_law_make {P : Program} {w : World} {K : PySem.W.Frag} {mg : Str → Option Value} {base : Heap} (S : Says K mg) : Fk P w K mg base 3 (He.fAd K ("_law_make", none)) ["state", "rest"] (sp_law_make K) := by
  have G_law_names := ok_law_names (P := P) (w := w) (base := base) S
  have G_law_no_box := ok_law_no_box (P := P) (w := w) (base := base) S
  refine mk_s S.df_law_make sc_law_make ?_ (by decide) fun cdv A outer sh H H0 Q E q G s as d s' bd pa x hp k => ?_
  · rintro s as d s' ⟨par, nm, b, rfl, _⟩
    rfl
  · obtain ⟨par, nm, b, rfl, hl, hres⟩ := hp
    obtain ⟨hr, tk, px, hu, hu65⟩ := bd
    refine ⟨_, (pss_cons (ps_asg (pv 1) (pg_tup rfl (pgs_cons (pg_name (i := 2) sc_law_make.nd rfl (Or.inl rfl)) (pgs_cons (pg_name (i := 3) sc_law_make.nd rfl (Or.inl rfl)) (pgs_cons (pg_name (i := 4) sc_law_make.nd rfl (Or.inl rfl)) pgs_nil)))))
      (pss_cons (ps_if (pt_val (pe_cf G_law_no_box (hr.mono (by decide)) (by rfl) S.glo__law_no_box px (pa_cons (pv 0) (pa_cons (pv 2) pa_nil)))) (pss_one (ps_ret (pe_str))) pss_nil)
      (pss_cons (ps_if (pt_cmpR op_in_seq (pv 3) (pe_cf G_law_names (hr.mono (by decide)) (by rfl) S.glo__law_names px (pa_cons (pv 0) (pa_cons (pv 2) (pa_cons (pe_non) pa_nil)))) rfl) (pss_one (ps_ret (pe_str))) pss_nil)
      (pss_cons (ps_dput hu (pv 0) (pe_str) (pe_op op_add (pe_dget hu (pv 0) (pe_str) (fun _ _ => rfl)) (pe_int)) rfl)
      (pss_cons (ps_dput hu (pe_dget hu (pv 0) (pe_str) (fun _ _ => rfl)) (pe_dget hu (pv 0) (pe_str) (fun _ _ => rfl)) (pe_tup (pa_cons (pv 2) (pa_cons (pv 3) (pa_cons (pe_ifExp (pt_val (pv 4)) (pe_non) (pe_str)) (pa_cons (pe_non) pa_nil))))) rfl)
      (pss_one (ps_ret (pe_dget hu (pv 0) (pe_str) (fun _ _ => rfl))))))))), ?_⟩
    refine go_un3 (ev_var rfl) ?_
    unfold LS.makeS at hres
    refine go_when (eb_B (s_noBox x.rd (ev_var rfl) (ev_var rfl))) (fun c => ?_) (fun c => ?_)
    · rw [if_pos c] at hres
      cases hres
      exact go_ret ev_str fun v H1 e hv => k v H1 G (x.mono e) (Fr.of_ex e) SFresh.refl hv
    · rw [if_neg (by rw [c]; decide)] at hres
      refine go_when (b := decide (nm ∈ s.names par none)) (eb_is (eb_test (ev_op (ev_var rfl) (s_names (but := none) x hl (ev_var rfl) (ev_var rfl) ev_non) (op_inL rfl (strs_flat _)))) (by rw [strs_val]; exact inV_strs nm _)) (fun c2 => ?_) (fun c2 => ?_)
      · rw [if_pos (of_decide_eq_true c2)] at hres
        cases hres
        exact go_ret ev_str fun v H1 e hv => k v H1 G (x.mono e) (Fr.of_ex e) SFresh.refl hv
      · rw [if_neg (of_decide_eq_false c2)] at hres
        cases hres
        have pe : pureE [some (.obj q), some (.tup [oI par, .str nm, .bl b]), some (oI par), some (.str nm), some (.bl b)] = true := by cases par <;> rfl
        refine go_sput (s' := { s with count := s.count + 1 }) x (ev_op (s_count x.rd (ev_var rfl)) ev_int op_addI) (ev_var rfl) pe rfl rfl rfl rfl fun H2 x2 r2 => ?_
        refine go_srow (n := s.count + 1) (r := ⟨⟨par, nm, if b then none else some ""⟩, none⟩) x2 (by show s.rows.length < _; omega) (ev_tup (ea_cons (ev_var rfl) (ea_cons (ev_var rfl) (ea_cons (ev_if (b := b) (eb_B (ev_var rfl)) (fun q => by subst q; exact ev_non) (fun q => by subst q; exact ev_str)) (ea_cons ev_non ea_nil)))) (by simp)) (s_rows x2.rd (ev_var rfl)) (s_count x2.rd (ev_var rfl)) pe fun H3 x3 r3 => ?_
        exact go_ret (s_count x3.rd (ev_var rfl)) fun v H4 e4 hv => k v H4 G (x3.mono e4) ((r2.strans SFresh.refl r3).trans_ex e4) SFresh.refl hv
/-! ### _law_place -/
def LS.renameS (s : LS) (n : Int) (nm : Str) : D × LS := if s.there (some n) = true then match get s.rows n with
    | some r => if nm ∈ s.names r.row.par (some n) then (.str "taken", s) else (.non, { s with rows := put s.rows n ⟨{ r.row with name := nm }, r.mark⟩ })
    | none => (.str "no thing", s)
  else (.str "no thing", s)
end Cs
set_option Elab.async false
set_option linter.all false
set_option maxRecDepth 100000
set_option maxHeartbeats 4000000
namespace Cs
open PySem PySem.Spec PyProof.Rows L2
section
variable {K : PySem.W.Frag} {ds : List (Option D)} {H : Hp} {ta tb te tl : TE} {t : TT} {tr : TA} {tu tz : TS} {d : D}
theorem ev_slS {z : Str} {i : Int} (hz : z.length ≤ 1000000) (h : EvD te ds H (.str z)) (hl : EvD tl ds H (.int i)) : EvD (tSl rSlS te (tPart tl) tNoPart) ds H (.str (cutS z (some i) none)) := fun σ H1 e n Q k =>
  h σ H1 e n _ fun v H2 e2 hv => hl σ H2 (e.trans e2) (n.mono e2) _ fun u H3 e3 hu => ⟨i, hu, z, hv, Nat.le_trans hz (by decide), k _ H3 (e2.trans e3) rfl⟩
theorem ev_replC {x y z : Str} (hz : x.length + (x.length + 1) * z.length ≤ 16777216) (h : EvD te ds H (.str x)) : EvD (CwR.tReplC te y z) ds H (.str (Txt.replace x y z)) := fun σ H1 e n Q k =>
  h σ H1 e n _ fun v H2 e2 hv => ⟨x, hv, hz, k _ H2 e2 rfl⟩
/-- if c: x = e -/
theorem ret_whenSet {b : Bool} {i : Nat} {x y : D} (h : EvB t ds H b) (hx : ds[i]? = some (some x)) (h1 : b = true → EvD te ds H y) (k1 : b = true → Ret tz (ds.set i (some y)) H d) (k2 : b = false → Ret tz ds H d) : Ret (tSeq (tIfS t (tAsg te (gName i)) tNext) tz) ds H d := fun σ H1 e n E q =>
  h σ H1 e n _ fun H2 e2 => by
    cases b with
    | true => exact iteT (h1 rfl σ H2 (e.trans e2) (n.mono e2) _ fun v H3 e3 hv => k1 rfl _ H3 ((e.trans e2).trans e3) (((n.mono e2).mono e3).set hv i) E fun u H4 e4 hu => q u H4 ((e2.trans e3).trans e4) hu)
    | false => exact iteF (k2 rfl σ H2 (e.trans e2) (n.mono e2) E fun u H3 e3 hu => q u H3 (e2.trans e3) hu)
theorem cl_lenDk {a : Addr} {kd : List (Key × D)} (h : DOn H a kd) : Cl rLenDk H [.obj a] (.int kd.length) := fun H1 e vs hv Q q => by
  obtain ⟨v, r, rfl, hv, hr⟩ := hv
  cases (show _ = _ from hr)
  cases (show _ = _ from hv)
  obtain ⟨kvs, hk, hi⟩ := h.mono e
  exact ⟨a, kvs, rfl, hk, q _ _ (Same.refl _) (by rw [hi.len]; exact rfl)⟩
end
inductive Wd where
  | make | rename | move | copy | write | tie | untie | back | gone | cast | empty | next_day
  deriving DecidableEq
def Wd.s : Wd → Str
  | .make => "make" | .rename => "rename" | .move => "move" | .copy => "copy" | .write => "write" | .tie => "tie" | .untie => "untie" | .back => "back" | .gone => "gone" | .cast => "cast" | .empty => "empty" | .next_day => "next_day"
def nameL (c : Int) : List Str := ["a", "b", "ab", lettersV c 1, lettersV c 3, "c"]
def nameV (c : Int) : Str := (nameL c).getD (mixV c 9907 6).toNat ""
def textV (c : Int) : Str := Txt.replace (cutS (lettersV (c + 3) 9) (some (mixV c 9887 10)) none) "e" " "
def LS.someV (s : LS) (c : Int) : Int := let l := s.casts.map (·.1) ++ [s.numberV (c + 1)]; l.getD (mixV c 9871 l.length).toNat 0
def LS.deedW (s : LS) (c : Int) : Wd → Deed
  | .make => .make (s.parentV (c + 2)) (nameV c) (decide (mixV c 9901 2 = 0))
  | .rename => .rename (s.numberV (c + 1)) (nameV c)
  | .move => .move (s.numberV (c + 1)) (s.parentV (c + 3))
  | .copy => .copy (s.numberV (c + 1)) (s.parentV (c + 3))
  | .write => .write (s.numberV (c + 1)) (textV c)
  | .tie => .tie (s.numberV (c + 1)) (s.numberV (c + 5))
  | .untie => if (!s.ties.isEmpty && decide (0 < c % 3)) = true then let p := s.ties.getD (mixV c 9883 s.ties.length).toNat (0, 0); .untie p.1 p.2 else .untie (s.numberV (c + 1)) (s.numberV (c + 5))
  | .back => .back (s.someV c)
  | .gone => .gone (s.someV c)
  | .cast => .cast (s.numberV (c + 1))
  | .empty => .empty
  | .next_day => .next_day
def LS.deedV (s : LS) (c : Int) (ws : List Wd) : Deed := s.deedW c (ws.getD (mixV c 9923 ws.length).toNat .make)
theorem strs_getD {ns : List Str} {m : Int} (h : m.toNat < ns.length) : (ns.map D.str)[m.toNat]? = some (.str (ns.getD m.toNat "")) := by
  rw [List.getElem?_map, List.getD_eq_getElem?_getD, List.getElem?_eq_getElem h]
  rfl
def sp_law_deed (K : PySem.W.Frag) : Sp := rsp fun H as d => ∃ c q G s ws, as = [.int c, .obj q, .tup (ws.map fun w => .str w.s)] ∧ SAt H q G s ∧ s.rows.length < 64 ∧ 0 ≤ s.count ∧ ws ≠ [] ∧ s.casts.length < 100000 ∧ d = (s.deedV c ws).d
theorem ok_law_deed {P : Program} {w : World} {K : PySem.W.Frag} {mg : Str → Option Value} {base : Heap} (S : Says K mg) : Fk P w K mg base 4 (He.fAd K ("_law_deed", none)) ["cell", "state", "words"] (sp_law_deed K) := by
  have G_law_mix := ok_law_mix (P := P) (w := w) (base := base) S
  have G_law_number := ok_law_number (P := P) (w := w) (base := base) S
  have G_law_letters := ok_law_letters (P := P) (w := w) (base := base) S
  have G_law_parent := ok_law_parent (P := P) (w := w) (base := base) S
  refine mk_r S.df_law_deed sc_law_deed ?_ (by decide) fun cdv A outer s0 H H0 E as d bd hp => ?_
  · rintro H as d ⟨c, q, G, s, ws, rfl, _⟩
    rfl
  · obtain ⟨c, q, G, s, ws, rfl, x', hl, hc, hw, hca, rfl⟩ := hp
    have x := x'.rd
    obtain ⟨hr, tk, px, hu, hu65⟩ := bd
    refine ⟨_, (pss_cons (ps_set (i := 3) sc_law_deed.nd rfl (Or.inl rfl) (pe_ix ix_tup (pv 2) (pe_cf G_law_mix (hr.mono (by decide)) (by rfl) S.glo__law_mix px (pa_cons (pv 0) (pa_cons (pe_int) (pa_cons (pe_callB call_len_seq (by rfl) S.free_len (by decide +kernel) (pa_cons (pv 2) pa_nil)) pa_nil)))) (fun _ _ => rfl)))
      (pss_cons (ps_set (i := 4) sc_law_deed.nd rfl (Or.inl rfl) (pe_cf G_law_number (hr.mono (by decide)) (by rfl) S.glo__law_number px (pa_cons (pe_op op_add (pv 0) (pe_int)) (pa_cons (pv 1) pa_nil))))
      (pss_cons (ps_set (i := 5) sc_law_deed.nd rfl (Or.inl rfl) (pe_ix ix_tup (pe_tup (pa_cons (pe_str) (pa_cons (pe_str) (pa_cons (pe_str) (pa_cons (pe_cf G_law_letters (hr.mono (by decide)) (by rfl) S.glo__law_letters px (pa_cons (pv 0) (pa_cons (pe_int) pa_nil))) (pa_cons (pe_cf G_law_letters (hr.mono (by decide)) (by rfl) S.glo__law_letters px (pa_cons (pv 0) (pa_cons (pe_int) pa_nil))) (pa_cons (pe_str) pa_nil))))))) (pe_cf G_law_mix (hr.mono (by decide)) (by rfl) S.glo__law_mix px (pa_cons (pv 0) (pa_cons (pe_int) (pa_cons (pe_int) pa_nil)))) (fun _ _ => rfl)))
      (pss_cons (ps_if (pt_cmpR op_eq (pv 3) (pe_str) (nomark _)) (pss_one (ps_ret (pe_tup (pa_cons (pe_str) (pa_cons (pe_cf G_law_parent (hr.mono (by decide)) (by rfl) S.glo__law_parent px (pa_cons (pe_op op_add (pv 0) (pe_int)) (pa_cons (pv 1) pa_nil))) (pa_cons (pv 5) (pa_cons (pe_cmpR op_eq (pe_cf G_law_mix (hr.mono (by decide)) (by rfl) S.glo__law_mix px (pa_cons (pv 0) (pa_cons (pe_int) (pa_cons (pe_int) pa_nil)))) (pe_int) (nomark _)) pa_nil))))))) pss_nil)
      (pss_cons (ps_if (pt_cmpR op_eq (pv 3) (pe_str) (nomark _)) (pss_one (ps_ret (pe_tup (pa_cons (pe_str) (pa_cons (pv 4) (pa_cons (pv 5) pa_nil)))))) pss_nil)
      (pss_cons (ps_if (pt_cmpR op_in_seq (pv 3) (pe_tup (pa_cons (pe_str) (pa_cons (pe_str) pa_nil))) rfl) (pss_one (ps_ret (pe_tup (pa_cons (pv 3) (pa_cons (pv 4) (pa_cons (pe_cf G_law_parent (hr.mono (by decide)) (by rfl) S.glo__law_parent px (pa_cons (pe_op op_add (pv 0) (pe_int)) (pa_cons (pv 1) pa_nil))) pa_nil)))))) pss_nil)
      (pss_cons (ps_if (pt_cmpR op_eq (pv 3) (pe_str) (nomark _)) (pss_one (ps_ret (pe_tup (pa_str1 (pat_next (pv 4) (pat_last (CwR.pet_replC (pe_slice sl_str (pe_cf G_law_letters (hr.mono (by decide)) (by rfl) S.glo__law_letters px (pa_cons (pe_op op_add (pv 0) (pe_int)) (pa_cons (pe_int) pa_nil))) (po_some (pe_cf G_law_mix (hr.mono (by decide)) (by rfl) S.glo__law_mix px (pa_cons (pv 0) (pa_cons (pe_int) (pa_cons (pe_int) pa_nil))))) po_none)))))))) pss_nil)
      (pss_cons (ps_if (pt_cmpR op_in_seq (pv 3) (pe_tup (pa_cons (pe_str) (pa_cons (pe_str) pa_nil))) rfl) (pss_cons (ps_set (i := 6) sc_law_deed.nd rfl (Or.inl rfl) (pe_dget hu (pv 1) (pe_str) (fun _ _ => rfl)))
      (pss_cons (ps_if (PW.pt (pw_and (pt_cmpR op_eq (pv 3) (pe_str) (nomark _)) (pw_and (pt_truth (pv 6) (by intro _; rfl)) (pw_and1 (pt_cmpR op_gt (pe_op op_mod (pv 0) (pe_int)) (pe_int) (nomark _)))))) (pss_one (ps_ret (pe_op op_catT (pe_tup (pa_cons (pe_str) pa_nil)) (pe_ix ix_list (pv 6) (pe_cf G_law_mix (hr.mono (by decide)) (by rfl) S.glo__law_mix px (pa_cons (pv 0) (pa_cons (pe_int) (pa_cons (pe_callB call_len_seq (by rfl) S.free_len (by decide +kernel) (pa_cons (pv 6) pa_nil)) pa_nil)))) (fun _ _ => rfl))))) pss_nil)
      (pss_one (ps_ret (pe_tup (pa_cons (pv 3) (pa_cons (pv 4) (pa_cons (pe_cf G_law_number (hr.mono (by decide)) (by rfl) S.glo__law_number px (pa_cons (pe_op op_add (pv 0) (pe_int)) (pa_cons (pv 1) pa_nil))) pa_nil)))))))) pss_nil)
      (pss_cons (ps_if (pt_cmpR op_in_seq (pv 3) (pe_tup (pa_cons (pe_str) (pa_cons (pe_str) pa_nil))) rfl) (pss_cons (ps_set (i := 7) sc_law_deed.nd rfl (Or.inl rfl) (pe_op op_cat (pe_lc (own := [("row", 8)]) (g := (gName 8)) (tt := tYes) (te := (tOp (rIxT K) (tVar 8) (tC (.int 0)))) rfl sc_law_deed.nd (pi_list (pe_dget hu (pv 1) (pe_str) (fun _ _ => rfl))) (blkOk_by (N := ["cell", "state", "words", "word", "number", "name", "pairs", "some", "row"]) (sc := defScope s_law_deed) (by decide +kernel)) (fun _ _ _ _ _ => (pg_name (i := 8) sc_law_deed.nd rfl (Or.inl rfl))) (fun _ _ _ _ _ => pts_nil) (fun _ _ _ _ _ => (pe_ix ix_tup (pv 8) (pe_int) (fun _ _ => rfl)))) (pe_lst (pa_cons (pv 4) pa_nil))))
      (pss_one (ps_ret (pe_tup (pa_cons (pv 3) (pa_cons (pe_ix ix_list (pv 7) (pe_cf G_law_mix (hr.mono (by decide)) (by rfl) S.glo__law_mix px (pa_cons (pv 0) (pa_cons (pe_int) (pa_cons (pe_callB call_len_seq (by rfl) S.free_len (by decide +kernel) (pa_cons (pv 7) pa_nil)) pa_nil)))) (fun _ _ => rfl)) pa_nil)))))) pss_nil)
      (pss_one (ps_ret (pe_ifExp (pt_cmpR op_eq (pv 3) (pe_str) (nomark _)) (pe_tup (pa_cons (pe_str) (pa_cons (pv 4) pa_nil))) (pe_tup (pa_cons (pv 3) pa_nil)))))))))))))), ?_⟩
    have hne : 0 < (ws.length : Int) := by
      cases ws with
      | nil => exact absurd rfl hw
      | cons a r => simp only [List.length_cons]; omega
    have b0 := mix_ge c 9923 ws.length hne
    have b1 := mix_lt c 9923 ws.length hne
    refine ret_asg (x := .str (ws.getD (mixV c 9923 ws.length).toNat .make).s) (ev_op (ev_var rfl) (s_mix (ev_var rfl) ev_int (ev_is (ev_cb (ea_cons (ev_var rfl) ea_nil) (cl_lenT (xs := ws.map fun w => .str w.s))) (by rw [List.length_map])) (by decide) (by decide) hne) (op_ixTi b0 ?_)) ?_
    · rw [List.getElem?_map, List.getD_eq_getElem?_getD, List.getElem?_eq_getElem (by omega)]
      rfl
    refine ret_asg (x := .int (s.numberV (c + 1))) (s_number x hl hc (ev_op (ev_var rfl) ev_int op_addI) (ev_var rfl)) ?_
    have n0 := mix_ge c 9907 6 (by decide)
    have n1 := mix_lt c 9907 6 (by decide)
    refine ret_asg (x := .str (nameV c)) (ev_op (ev_tup (as := (nameL c).map D.str) (ea_cons ev_str (ea_cons ev_str (ea_cons ev_str (ea_cons (s_letters (ev_var rfl) ev_int (by decide) (by decide)) (ea_cons (s_letters (ev_var rfl) ev_int (by decide) (by decide)) (ea_cons ev_str ea_nil)))))) (by simp [nameL])) (s_mix (ev_var rfl) ev_int ev_int (by decide) (by decide) (by decide)) (op_ixTi n0 (strs_getD (by show _ < 6; omega)))) ?_
    unfold LS.deedV
    generalize ws.getD (mixV c 9923 ws.length).toNat .make = w
    have yes : ∀ {b : Bool}, b = true → b = false → False := fun h1 h2 => by rw [h1] at h2; cases h2
    have two : ∀ {ds : List (Option D)} {a b : Str}, EvA (tCons (tC (.str a)) (tCons (tC (.str b)) tNil)) ds H ([a, b].map D.str) := ea_cons ev_str (ea_cons ev_str ea_nil)
    -- make, rename
    by_cases h1 : w = .make
    · subst h1
      refine ret_when (b := true) (eb_eqS rfl (by decide +kernel)) (fun _ => ?_) (fun q => by cases q)
      refine ret_ret (ev_tup (ea_cons ev_str (ea_cons (s_parent x hl hc (ev_op (ev_var rfl) ev_int op_addI) (ev_var rfl)) (ea_cons (ev_var rfl) (ea_cons ?_ ea_nil)))) (by simp))
      refine ev_is (ev_op (s_mix (ev_var rfl) ev_int ev_int (by decide) (by decide) (by decide)) ev_int (op_eqF rfl rfl rfl)) ?_
      rw [dec_int_val]
    refine ret_when (b := false) (eb_eqS rfl (by cases w <;> first | decide +kernel | exact absurd rfl h1)) (fun q => by cases q) (fun _ => ?_)
    by_cases h2 : w = .rename
    · subst h2
      refine ret_when (b := true) (eb_eqS rfl (by decide +kernel)) (fun _ => ?_) (fun q => by cases q)
      exact ret_ret (ev_tup (ea_cons ev_str (ea_cons (ev_var rfl) (ea_cons (ev_var rfl) ea_nil))) (by simp))
    refine ret_when (b := false) (eb_eqS rfl (by cases w <;> first | decide +kernel | exact absurd rfl h2)) (fun q => by cases q) (fun _ => ?_)
    -- copy, move
    by_cases h3 : w = .copy
    · subst h3
      refine ret_when (b := true) (eb_inS (bs := ["move", "copy"]) rfl two (by decide) (by decide +kernel)) (fun _ => ?_) (fun q => by cases q)
      exact ret_ret (ev_tup (ea_cons (ev_var rfl) (ea_cons (ev_var rfl) (ea_cons (s_parent x hl hc (ev_op (ev_var rfl) ev_int op_addI) (ev_var rfl)) ea_nil))) (by simp))
    by_cases h4 : w = .move
    · subst h4
      refine ret_when (b := true) (eb_inS (bs := ["move", "copy"]) rfl two (by decide) (by decide +kernel)) (fun _ => ?_) (fun q => by cases q)
      exact ret_ret (ev_tup (ea_cons (ev_var rfl) (ea_cons (ev_var rfl) (ea_cons (s_parent x hl hc (ev_op (ev_var rfl) ev_int op_addI) (ev_var rfl)) ea_nil))) (by simp))
    refine ret_when (b := false) (eb_inS (bs := ["move", "copy"]) rfl two (by decide) (by cases w <;> first | decide +kernel | exact absurd rfl h3 | exact absurd rfl h4)) (fun q => by cases q) (fun _ => ?_)
    by_cases h5 : w = .write
    · subst h5
      refine ret_when (b := true) (eb_eqS rfl (by decide +kernel)) (fun _ => ?_) (fun q => by cases q)
      have hcl := cutS_length (lettersV (c + 3) 9) (some (mixV c 9887 10)) none
      rw [letters_len] at hcl
      have hcl2 : (cutS (lettersV (c + 3) 9) (some (mixV c 9887 10)) none).length ≤ 9 := hcl
      refine ret_ret (ev_tup (ea_cons ev_str (ea_cons (ev_var rfl) (ea_cons (ev_replC ?_ (ev_slS (by rw [letters_len]; decide) (s_letters (ev_op (ev_var rfl) ev_int op_addI) ev_int (by decide) (by decide)) (s_mix (ev_var rfl) ev_int ev_int (by decide) (by decide) (by decide)))) ea_nil))) (by simp))
      have e1 : (" " : Str).length = 1 := by decide +kernel
      rw [e1]
      omega
    refine ret_when (b := false) (eb_eqS rfl (by cases w <;> first | decide +kernel | exact absurd rfl h5)) (fun q => by cases q) (fun _ => ?_)
    by_cases h6 : w = .tie ∨ w = .untie
    · refine ret_when (b := true) (eb_inS (bs := ["tie", "untie"]) rfl two (by decide) (by rcases h6 with rfl | rfl <;> decide +kernel)) (fun _ => ?_) (fun q => by cases q)
      refine ret_asg (s_ties x (ev_var rfl)) ?_
      refine ret_when (b := decide (w = .untie) && (!s.ties.isEmpty && decide (0 < c % 3))) ?_ (fun hb => ?_) (fun hb => ?_)
      · refine eb_and (eb_eqS rfl (by rcases h6 with rfl | rfl <;> decide +kernel)) fun _ => eb_and (eb_is (eb_truL (ev_var rfl)) (by rw [List.isEmpty_map])) fun _ => eb_test (ev_op (ev_op (ev_var rfl) ev_int (op_modI (by decide))) ev_int op_gtI)
      · have hb' := Bool.and_eq_true_iff.mp hb
        have hwu : w = .untie := of_decide_eq_true hb'.1
        subst hwu
        have hnt : 0 < (s.ties.length : Int) := by
          cases e : s.ties with
          | nil => rw [e] at hb'; simp at hb'
          | cons a r => simp only [List.length_cons]; omega
        have t0 := mix_ge c 9883 s.ties.length hnt
        have t1 := mix_lt c 9883 s.ties.length hnt
        have hlt : (mixV c 9883 s.ties.length).toNat < s.ties.length := by omega
        refine (ret_ret (ev_op (b := pairD (s.ties.getD (mixV c 9883 s.ties.length).toNat (0, 0))) (ev_tup (ea_cons ev_str ea_nil) (by simp)) (ev_op (ev_var rfl) (s_mix (ev_var rfl) ev_int (ev_is (ev_cb (ea_cons (ev_var rfl) ea_nil) (cl_lenL (xs := s.ties.map pairD))) (by rw [List.length_map])) (by decide) (by decide) hnt) (op_ixLi t0 ?_)) (op_catTD (by simp) (by simp) (by simp)))).is ?_
        · rw [List.getElem?_map, List.getD_eq_getElem?_getD, List.getElem?_eq_getElem hlt]
          rfl
        · show _ = (LS.deedW s c .untie).d
          unfold LS.deedW
          dsimp only
          rw [if_pos hb'.2]
          rfl
      · refine (ret_ret (ev_tup (ea_cons (ev_var rfl) (ea_cons (ev_var rfl) (ea_cons (s_number x hl hc (ev_op (ev_var rfl) ev_int op_addI) (ev_var rfl)) ea_nil))) (by simp))).is ?_
        rcases h6 with rfl | rfl
        · rfl
        · show _ = (LS.deedW s c .untie).d
          unfold LS.deedW
          dsimp only
          have : ¬ ((!s.ties.isEmpty && decide (0 < c % 3)) = true) := fun z => by rw [z] at hb; cases hb
          rw [if_neg this]
          rfl
    refine ret_when (b := false) (eb_inS (bs := ["tie", "untie"]) rfl two (by decide) (by cases w <;> first | decide +kernel | exact absurd (.inl rfl) h6 | exact absurd (.inr rfl) h6)) (fun q => by cases q) (fun _ => ?_)
    by_cases h7 : w = .back ∨ w = .gone
    · refine ret_when (b := true) (eb_inS (bs := ["back", "gone"]) rfl two (by decide) (by rcases h7 with rfl | rfl <;> decide +kernel)) (fun _ => ?_) (fun q => by cases q)
      have hlc : EvD (tLc (iList K (tDGet (tVar 1) (tC (.str "casts")))) (gName 8) tYes (tOp (rIxT K) (tVar 8) (tC (.int 0))) [8]) [some (.int c), some (.obj q), some (.tup (ws.map fun w => .str w.s)), some (.str w.s), some (.int (s.numberV (c + 1))), some (.str (nameV c)), none, none, none] H (.lst ((s.casts.map (·.1)).map D.int)) := by
        rw [← map_pairs_fst]
        exact ev_lcP _ (s_casts x (ev_var rfl)) (by omega) (fun p hp => eb_yes) (fun p hp y hy => by cases hy; exact ⟨ev_op (ev_var rfl) ev_int (op_ixT (i := 0) rfl), rfl⟩)
      refine ret_asg (x := .lst ((s.casts.map (·.1) ++ [s.numberV (c + 1)]).map D.int)) (ev_is (el_cat hlc (ev_lst (ea_cons (ev_var rfl) ea_nil) (by simp)) (by simp; omega)).d (by rw [List.map_append]; rfl)) ?_
      have hn : 0 < ((s.casts.map (·.1) ++ [s.numberV (c + 1)]).length : Int) := by simp only [List.length_append, List.length_cons]; omega
      have t0 := mix_ge c 9871 _ hn
      have t1 := mix_lt c 9871 _ hn
      refine (ret_ret (ev_tup (ea_cons (ev_var rfl) (ea_cons (ev_op (ev_var rfl) (s_mix (ev_var rfl) ev_int (ev_is (ev_cb (ea_cons (ev_var rfl) ea_nil) (cl_lenL (xs := (s.casts.map (·.1) ++ [s.numberV (c + 1)]).map D.int))) (by rw [List.length_map])) (by decide) (by decide) hn) (op_ixLi t0 (ints_getD (by omega)))) ea_nil)) (by simp))).is ?_
      rcases h7 with rfl | rfl <;> rfl
    refine ret_when (b := false) (eb_inS (bs := ["back", "gone"]) rfl two (by decide) (by cases w <;> first | decide +kernel | exact absurd (.inl rfl) h7 | exact absurd (.inr rfl) h7)) (fun q => by cases q) (fun _ => ?_)
    refine ret_ret (ev_if (b := decide (w = .cast)) (eb_eqS rfl (by cases w <;> decide +kernel)) (fun hb => ?_) (fun hb => ?_))
    · cases of_decide_eq_true hb
      exact ev_tup (ea_cons ev_str (ea_cons (ev_var rfl) ea_nil)) (by simp)
    · refine ev_is (ev_tup (ea_cons (ev_var rfl) ea_nil) (by simp)) ?_
      cases w <;> first | rfl | exact absurd rfl h1 | exact absurd rfl h2 | exact absurd rfl h3 | exact absurd rfl h4 | exact absurd rfl h5 | exact absurd (.inl rfl) h6 | exact absurd (.inr rfl) h6 | exact absurd (.inl rfl) h7 | exact absurd (.inr rfl) h7 | cases hb
theorem s_deed {K : PySem.W.Frag} {H : Hp} {q : Addr} {G : SFoot} {s : LS} {c : Int} {ws : List Wd} {ds : List (Option D)} {t1 t2 t3 : TE} {X : XK} (x : SAt H q G s) (hl : s.rows.length < 64) (hc : 0 ≤ s.count) (hw : ws ≠ []) (hca : s.casts.length < 100000) (h1 : EvD t1 ds H (.int c)) (h2 : EvD t2 ds H (.obj q)) (h3 : EvD t3 ds H (.tup (ws.map fun w => .str w.s))) :
    EvD (tCall (sp_law_deed K) [] X (tCons t1 (tCons t2 (tCons t3 tNil)))) ds H (s.deedV c ws).d := ev_call (ea_cons h1 (ea_cons h2 (ea_cons h3 ea_nil))) (rsp_pr fun H' e => ⟨c, q, G, s, ws, rfl, x.mono e, hl, hc, hw, hca, rfl⟩)
end Cs
set_option Elab.async false
set_option linter.all false
set_option maxRecDepth 100000
set_option maxHeartbeats 4000000
namespace Cs
open PySem PySem.Spec PyProof.Rows L2
/-! ### the law's state of a house -/
def HS.abs (h : HS) : LS := ⟨h.keep, h.room, h.rows.map fun p => (p.1, ⟨p.2, get h.shelved p.1⟩), h.casts, h.pairs, h.today, h.count⟩
theorem get_map {α β : Type} (f : Int → α → β) (l : List (Int × α)) (n : Int) : get (l.map fun p => (p.1, f p.1 p.2)) n = (get l n).map (f n) := by
  induction l with
  | nil => rfl
  | cons p r ih =>
    by_cases e : p.1 = n
    · rw [List.map_cons, get_pos (p := (p.1, f p.1 p.2)) e, get_pos e]
      subst e
      rfl
    · rw [List.map_cons, get_neg (p := (p.1, f p.1 p.2)) e, get_neg e, ih]
theorem abs_get (h : HS) (n : Int) : get h.abs.rows n = (get h.rows n).map fun r => ⟨r, get h.shelved n⟩ := get_map (β := LRow) (fun n r => ⟨r, get h.shelved n⟩) h.rows n
theorem abs_keys (h : HS) : h.abs.keys = h.keys := by
  unfold LS.keys HS.keys HS.abs
  rw [List.map_map]
  rfl
theorem abs_len (h : HS) : h.abs.rows.length = h.rows.length := by simp [HS.abs]
theorem abs_there (h : HS) (n : Int) : h.abs.there (some n) = h.there n := by
  unfold LS.there HS.there
  dsimp only
  rw [abs_get]
  cases get h.rows n with
  | none => rfl
  | some r =>
    show (get h.shelved n).isNone = (true && !(get h.shelved n).isSome)
    cases get h.shelved n <;> rfl
theorem sub_len : ∀ {a b : List Int}, a.Nodup → (∀ k ∈ a, k ∈ b) → a.length ≤ b.length
  | [], _, _, _ => Nat.zero_le _
  | x :: a, b, hn, hs => by
    have hx : x ∈ b := hs x (by simp)
    have h1 := sub_len (a := a) (b := b.erase x) (List.nodup_cons.mp hn).2 fun k hk => by
      have hne : k ≠ x := fun q => (List.nodup_cons.mp hn).1 (q ▸ hk)
      exact (List.mem_erase_of_ne hne).mpr (hs k (by simp [hk]))
    have h2 := List.length_erase_of_mem hx
    have h3 : 0 < b.length := List.length_pos_of_mem hx
    simp only [List.length_cons]
    omega
structure WF (h : HS) : Prop where
  rl : h.rows.length < 64
  kn : h.keys.Nodup
  sn : (h.shelved.map (·.1)).Nodup
  sub : ∀ k ∈ h.shelved.map (·.1), k ∈ h.keys
  ca : ∀ q ∈ h.casts, q.1 ∈ h.keys
  cl : h.casts.length < 1000
  pl : h.pairs.length < 100000
  tx : h.textsOk
theorem WF.sl {h : HS} (w : WF h) : h.shelved.length < 64 := by
  have := sub_len w.sn w.sub
  simp only [HS.keys, List.length_map] at this
  have := w.rl
  omega
theorem WF.tx' {h : HS} (w : WF h) : h.abs.textsOk := fun n r x hr hx => by
  rw [abs_get] at hr
  cases e : get h.rows n with
  | none => rw [e] at hr; cases hr
  | some r' =>
    rw [e] at hr
    cases hr
    exact w.tx n r' x e hx
theorem nodup_eq {a b : List Int} (ha : a.Nodup) (hb : b.Nodup) (sa : a.Pairwise (· ≤ ·)) (sb : b.Pairwise (· ≤ ·)) (h : ∀ n, n ∈ a ↔ n ∈ b) : a = b := sorted_unique ((List.perm_ext_iff_of_nodup ha hb).mpr h) sa sb
theorem sortI_nodup {ns : List Int} (h : ns.Nodup) : (sortI ns).Nodup := (sortI_perm ns).nodup_iff.mpr h
theorem get_key {α : Type} {l : List (Int × α)} {n : Int} {a : α} (h : get l n = some a) : n ∈ l.map (·.1) := get_mem.mp (by rw [h]; rfl)
theorem bundle_eq {h : HS} (w : WF h) (n : Int) : (sortI h.keys).filter (fun k => decide (get h.shelved k = some n)) = h.bundle n := by
  refine nodup_eq ((sortI_nodup w.kn).filter _) ((sortI_nodup w.sn).filter _) ((sortI_pw _).filter _) ((sortI_pw _).filter _) fun k => ?_
  unfold HS.bundle
  rw [List.mem_filter, List.mem_filter, mem_sortI, mem_sortI]
  refine ⟨fun q => ⟨get_key (of_decide_eq_true q.2), q.2⟩, fun q => ⟨w.sub _ q.1, q.2⟩⟩
theorem bundle_len {h : HS} (w : WF h) (n : Int) : (h.keys.filter fun k => decide (get h.shelved k = some n)).length = (h.bundle n).length := by
  rw [← bundle_eq w n]
  exact ((sortI_perm h.keys).filter _).length_eq.symm
/-! ### _law_shelf -/
theorem EnvOk.len {H : Hp} : ∀ {σ : L2.St} {ds : List (Option D)}, EnvOk H σ ds → σ.length = ds.length := by
  intro σ
  induction σ with
  | nil => intro ds h; cases ds with | nil => rfl | cons _ _ => exact h.elim
  | cons x σ ih =>
    intro ds h
    cases ds with
    | nil => cases x <;> exact h.elim
    | cons y ds =>
      cases y with
      | none => exact congrArg Nat.succ (ih (show EnvOk H σ ds by cases x <;> exact h))
      | some d => cases x with
        | none => exact h.elim
        | some v => exact congrArg Nat.succ (ih h.2)
theorem ret_collectP2 {K : PySem.W.Frag} {H : Hp} {ds : List (Option D)} {tl tm te : TE} {j1 j2 jm f : Nat} {a : Addr} {vs : List V} {ps : List (Int × Int)} {m : Int × Int → D} {g : Int × Int → D} (n12 : j1 ≠ j2) (n1f : j1 ≠ f) (n2f : j2 ≠ f) (nmf : jm ≠ f) (ha : H a = some (.lst vs)) (hvs : IsL H (ps.map pairD) vs) (hz : ps.length < 100000)
    (hf : f < ds.length) (hds : (((ds.set f none).set j1 none).set j2 none).set jm none = ds) (hpj : pureE ds = true) (hl : EvD tl ds H (.obj a)) (hm : ∀ p ∈ ps, EvD tm ((ds.set j1 (some (.int p.1))).set j2 (some (.int p.2))) H (m p))
    (he : ∀ p ∈ ps, EvD te (((ds.set j1 (some (.int p.1))).set j2 (some (.int p.2))).set jm (some (m p))) H (g p)) (hg : ∀ p ∈ ps, (g p).pure = true) :
    Ret (tSeq (tAsg (tLst tNil) (gName f)) (tSeq (tFor (iList K tl) (gTup K 2 (gCons (gName j1) (gCons (gName j2) gNil))) (tSeq (tAsg tm (gName jm)) (tDrop (tBM K "list" rAppend (tVar f) (tCons te tNil))))) (tRet (tCB (rTupOf K) (tCons (tVar f) tNil))))) ds H (.tup (ps.map g)) := by
  intro σ H1 e n E q
  refine ⟨by show 0 ≤ sizeLine; decide, fun l hl0 => ?_⟩
  have el : Ex H1 (upd H1 l (.lst [])) := Ex.new hl0
  have fl : f < σ.length := by rw [n.len]; exact hf
  have n1 : EnvOk (upd H1 l (.lst [])) (σ.set f (some (.ref l))) ds := by
    have := (((((n.mono el).clear f (some (.ref l))).forget j1).forget j2).forget jm)
    rw [hds] at this
    exact this
  refine hl _ _ (e.trans el) n1 _ fun v H2 e2 hv => ⟨a, hv, ⟨vs, SqL.of (((e.trans el).trans e2) _ _ ha)⟩, ?_⟩
  refine for_list (xs := vs) (fun i σ' H' => σ'[f]? = some (some (.ref l)) ∧ EnvOk H' σ' ds ∧ Acc H1 l ((ps.take i).map g) H') ?_ ?_ ?_ ?_
  · exact ⟨by rw [List.getElem?_set_self fl], n1.mono e2, (Acc.zero hl0).ext e2⟩
  · intro i σ' H' _ p
    exact SqL.of ((e.trans p.2.2.2.1) _ _ ha)
  · rintro i x σ' H' hi ⟨h1, h2, h3⟩
    obtain ⟨d, hd, hx⟩ := (hvs.mono (e.trans h3.2.1)).getV hi
    rw [List.getElem?_map] at hd
    obtain ⟨p, hp, rfl⟩ : ∃ p, ps[i]? = some p ∧ pairD p = d := by
      cases e3 : ps[i]? with
      | none => rw [e3] at hd; cases hd
      | some p => rw [e3] at hd; exact ⟨p, rfl, Option.some.inj hd⟩
    have hpm : p ∈ ps := List.mem_of_getElem? hp
    obtain ⟨b, us, rfl, hb, u1, r1, rfl, hu1, u2, r2, rfl, hu2, hr2⟩ := hx
    cases (show _ = _ from hr2)
    refine ⟨b, _, rfl, SqT.of hb, rfl, _, _, rfl, _, _, rfl, rfl, ?_⟩
    have hfj : ((σ'.set j1 (some u1)).set j2 (some u2))[f]? = some (some (.ref l)) := by
      rw [List.getElem?_set_ne n2f, List.getElem?_set_ne n1f]
      exact h1
    refine hm p hpm _ H' (e.trans h3.2.1) ((h2.set hu1 j1).set hu2 j2) _ fun v3 H3 e3 hv3 => ?_
    have env3 := (((h2.mono e3).set (hu1.mono e3) j1).set (hu2.mono e3) j2).set hv3 jm
    have h33 := h3.ext e3
    obtain ⟨_, _, acc, hacc, _, _⟩ := id h33
    have hfj3 : (((σ'.set j1 (some u1)).set j2 (some u2)).set jm (some v3))[f]? = some (some (.ref l)) := by
      rw [List.getElem?_set_ne nmf]
      exact hfj
    refine ⟨_, hfj3, .inl ⟨rfl, acc, SqL.of hacc⟩, he p hpm _ H3 (e.trans h33.2.1) env3 _ fun u H4 e4 hu => ?_⟩
    have h44 := h33.ext e4
    obtain ⟨_, _, acc', hacc', il', _⟩ := id h44
    have eall : ((((((ds.set j1 (some (.int p.1))).set j2 (some (.int p.2))).set jm (some (m p))).set f none).set j1 none).set j2 none).set jm none = ds := by
      refine Eq.trans ?_ hds
      apply List.ext_getElem?
      intro k
      simp only [List.getElem?_set, List.length_set]
      by_cases c1 : jm = k <;> by_cases c2 : j2 = k <;> by_cases c3 : j1 = k <;> by_cases c4 : f = k <;> simp [c1, c2, c3, c4]
    have env4 : EnvOk H4 (((σ'.set j1 (some u1)).set j2 (some u2)).set jm (some v3)) ds := by
      have := (((((env3.mono e4).forget f).forget j1).forget j2).forget jm)
      rw [eall] at this
      exact this
    refine ⟨l, acc', u, rfl, rfl, hacc', ?_, hfj3, ?_, ?_⟩
    · rw [il'.len, List.length_map]
      exact Nat.lt_of_le_of_lt (List.length_take_le' i ps) (Nat.lt_trans hz (by decide))
    · exact env4.tups (fun b vs hb => by rw [upd_ne (ne_of hb hacc' (by intro z; cases z))]; exact hb) hpj
    · rw [List.take_succ, hp]
      simp only [Option.toList_some, List.map_append, List.map_cons, List.map_nil]
      exact h44.snoc hacc' hu (hg p hpm)
  · rintro σ' H' ⟨h1, h2, h3⟩
    rw [hvs.len, List.length_map, List.take_length] at h3
    obtain ⟨_, ex, acc, hacc, il, _⟩ := h3
    exact ⟨_, h1, l, acc, rfl, .inl ⟨SqL.of hacc, fun z hz => q _ _ (ex.trans (Ex.new hz)) ⟨z, acc, rfl, upd_same, il.mono (Ex.new hz)⟩⟩⟩
def sp_law_shelf (K : PySem.W.Frag) : Sp := rsp fun H as d => ∃ q G h, as = [.obj q] ∧ SAt H q G h.abs ∧ WF h ∧ d = .tup h.shelf
theorem shelf_map {h : HS} (w : WF h) : h.shelf = h.casts.map fun q => .tup [.int q.1, .str ((get h.rows q.1).getD ⟨none, "", none⟩).name, .int (q.2 + h.keep), .int (h.bundle q.1).length] := by
  unfold HS.shelf
  rw [← List.filterMap_eq_map]
  refine fm_congr fun q hq => ?_
  obtain ⟨r, hr⟩ := keys_row (w.ca q hq)
  simp [shelfD, hr]
theorem ok_law_shelf {P : Program} {w : World} {K : PySem.W.Frag} {mg : Str → Option Value} {base : Heap} (S : Says K mg) : Fk P w K mg base 1 (He.fAd K ("_law_shelf", none)) ["state"] (sp_law_shelf K) := by
  refine mk_r S.df_law_shelf sc_law_shelf ?_ (by decide) fun cdv A outer s0 H H0 E as d bd hp => ?_
  · rintro H as d ⟨q, G, h, rfl, _⟩
    rfl
  · obtain ⟨q, G, h, rfl, x, w, rfl⟩ := hp
    obtain ⟨hr, tk, px, hu, hu65⟩ := bd
    refine ⟨_, (pss_cons (ps_set (i := 1) sc_law_shelf.nd rfl (Or.inl rfl) (pe_lst pa_nil))
      (pss_cons (ps_for (passes_of rfl) rfl (pi_list (pe_dget hu (pv 0) (pe_str) (fun _ _ => rfl))) (pg_tup rfl (pgs_cons (pg_name (i := 2) sc_law_shelf.nd rfl (Or.inr rfl)) (pgs_cons (pg_name (i := 3) sc_law_shelf.nd rfl (Or.inl rfl)) pgs_nil))) (pss_cons (ps_set (i := 4) sc_law_shelf.nd rfl (Or.inl rfl) (pe_callB call_len_seq (by rfl) S.free_len (by decide +kernel) (pa_cons (pe_lock (pe_lc (own := [("one", 5)]) (g := (gName 5)) (tt := (tTest (tOp rEq (tOp (rIxT K) (tDGet (tDGet (tVar 0) (tC (.str "rows"))) (tVar 5)) (tC (.int 3))) (tVar 2)))) (te := (tC (.int 1))) rfl sc_law_shelf.nd (pi_keys (pe_dget hu (pv 0) (pe_str) (fun _ _ => rfl))) (blkOk_by (N := ["state", "found", "number", "day", "many", "one"]) (sc := defScope s_law_shelf) (by decide +kernel)) (fun _ _ _ _ _ => (pg_name (i := 5) sc_law_shelf.nd rfl (Or.inl rfl))) (fun _ _ _ _ _ => (pts_one (pt_cmpR op_eq (pe_ix ix_tup (pe_dget hu (pe_dget hu (pv 0) (pe_str) (fun _ _ => rfl)) (pv 5) (fun _ _ => rfl)) (pe_int) (fun _ _ => rfl)) (pv 2) (nomark _)))) (fun _ _ _ _ _ => (pe_int)))) pa_nil)))
      (pss_one (ps_expr (pe_bm PySem.F.plainAttrs_list PySem.F.slot_list_append PySem.F.type_list_append mt_append (pv 1) (pa_cons (pe_tup (pa_cons (pv 2) (pa_cons (pe_ix ix_tup (pe_dget hu (pe_dget hu (pv 0) (pe_str) (fun _ _ => rfl)) (pv 2) (fun _ _ => rfl)) (pe_int) (fun _ _ => rfl)) (pa_cons (pe_op op_add (pv 3) (pe_dget hu (pv 0) (pe_str) (fun _ _ => rfl))) (pa_cons (pv 4) pa_nil))))) pa_nil))))))
      (pss_one (ps_ret (pe_callTy call_tuple_of (by rfl) S.free_tuple (by decide +kernel) (pa_cons (pv 1) pa_nil)))))), ?_⟩
    obtain ⟨vs, hvs, il⟩ := x.casts_
    obtain ⟨kvs, hk, hi⟩ := id x.rw
    have hks : kvs.map (·.1) = h.keys.map Sum.inl := by rw [hi.keys, kds_keys]; exact congrArg _ (abs_keys h)
    have hkl : h.keys.length < 64 := by unfold HS.keys; rw [List.length_map]; exact w.rl
    rw [shelf_map w]
    have hcl := w.cl
    refine ret_collectP2 (m := fun p => .int (h.bundle p.1).length) (by decide) (by decide) (by decide) (by decide) hvs il (by show h.casts.length < _; omega) (by simp) rfl rfl (s_castsO x.rd (ev_var rfl)) (fun p hp => ?_) (fun p hp => ?_) (fun p hp => rfl)
    · refine ev_is (ev_cb (ea_cons (ev_lock (d := .lst ((h.keys.filter fun k => decide (get h.shelved k = some p.1)).map fun _ => D.int 1)) hk fun od => ?_) ea_nil) cl_lenL) (by rw [List.length_map, bundle_len w])
      have xl := SRd.lock (od := od) hk x.rd
      rw [← filterMap_if]
      refine ev_lcKI upd_same hks _ (s_rows xl (ev_var rfl)) (by omega) (fun k hk' => ?_) (fun k hk' y hy => ?_)
      · obtain ⟨r, hr⟩ := keys_row hk'
        have hr2 : get h.abs.rows k = some ⟨r, get h.shelved k⟩ := by rw [abs_get, hr]; rfl
        refine eb_is (eb_test (ev_op (s_mark xl (ev_var rfl) (ev_var rfl) hr2) (ev_var rfl) (op_eqF (oI_flat _) rfl (oI_scal _ (some p.1))))) ?_
        rw [isSome_if, show (D.int p.1).val = (oI (some p.1)).val from rfl, oI_val]
      · split at hy
        · cases hy
          exact ⟨ev_int, rfl⟩
        · cases hy
    · obtain ⟨r, hr⟩ := keys_row (w.ca p hp)
      have hr2 : get h.abs.rows p.1 = some ⟨r, get h.shelved p.1⟩ := by rw [abs_get, hr]; rfl
      refine ev_is (ev_tup (ea_cons (ev_var rfl) (ea_cons (s_name x.rd (ev_var rfl) (ev_var rfl) hr2) (ea_cons (ev_op (ev_var rfl) (s_keep x.rd (ev_var rfl)) op_addI) (ea_cons (ev_var rfl) ea_nil)))) (by simp)) ?_
      rw [hr]
      rfl
/-! ### blocks that go on -/
def Thru (ts : TS) (ds : List (Option D)) (H : Hp) (ds' : List (Option D)) : Prop := ∀ σ H1, Ex H H1 → EnvOk H1 σ ds → ∀ E : Ends, (∀ σ' H2, Ex H1 H2 → EnvOk H2 σ' ds' → E.nx σ' H2) → ts E σ H1
section
variable {K : PySem.W.Frag} {ds ds' ds0 : List (Option D)} {H : Hp} {ta te tl : TE} {t : TT} {tu tz : TS} {d x : D}
theorem ret_thru (h : Thru tu ds H ds') (k : Ret tz ds' H d) : Ret (tSeq tu tz) ds H d := fun σ H1 e n E q =>
  h σ H1 e n _ fun σ' H2 e2 n2 => k σ' H2 (e.trans e2) n2 E fun v H3 e3 hv => q v H3 (e2.trans e3) hv
theorem thru_asg {i : Nat} (h : EvD te ds H x) (k : Thru tz (ds.set i (some x)) H ds') : Thru (tSeq (tAsg te (gName i)) tz) ds H ds' := fun σ H1 e n E q =>
  h σ H1 e n _ fun v H2 e2 hv => k _ H2 (e.trans e2) ((n.mono e2).set hv i) E fun σ' H3 e3 n3 => q σ' H3 (e2.trans e3) n3
theorem thru_not (h : EvB t ds H false) (hf : ∀ (H : Hp) (σ : L2.St), EnvOk H σ ds → EnvOk H σ ds') : Thru (tIfS t tu tNext) ds H ds' := fun σ H1 e n E q =>
  h σ H1 e n _ fun H2 e2 => iteF (q σ H2 e2 (hf H2 σ (n.mono e2)))
theorem thru_forP2 {ps : List (Int × Int)} {j1 j2 : Nat} (hl : EvD tl ds H (.lst (ps.map pairD))) (hb : ∀ p ∈ ps, Thru tu ((ds.set j1 (some (.int p.1))).set j2 (some (.int p.2))) H ds) : Thru (tFor (iList K tl) (gTup K 2 (gCons (gName j1) (gCons (gName j2) gNil))) tu) ds H ds := fun σ H1 e n E q =>
  hl σ H1 e n _ fun v H2 e2 hv => by
    obtain ⟨a, vs, rfl, ha, hvs⟩ := hv
    refine ⟨a, rfl, ⟨vs, SqL.of ha⟩, for_list (xs := vs) (fun i σ' H' => Ex H2 H' ∧ EnvOk H' σ' ds) ⟨Same.refl _, n.mono e2⟩ (fun i σ' H' _ p => SqL.of (p.1 _ _ ha)) (fun i y σ' H' hi p => ?_) fun σ' H' p => q σ' H' (e2.trans p.1) p.2⟩
    obtain ⟨d, hd, hx⟩ := (hvs.mono p.1).getV hi
    rw [List.getElem?_map] at hd
    obtain ⟨z, hz, rfl⟩ : ∃ z, ps[i]? = some z ∧ pairD z = d := by
      cases e3 : ps[i]? with
      | none => rw [e3] at hd; cases hd
      | some z => rw [e3] at hd; exact ⟨z, rfl, Option.some.inj hd⟩
    obtain ⟨b, us, rfl, hb', u1, r1, rfl, hu1, u2, r2, rfl, hu2, hr2⟩ := hx
    cases (show _ = _ from hr2)
    refine ⟨b, _, rfl, SqT.of hb', rfl, _, _, rfl, _, _, rfl, rfl, ?_⟩
    exact hb z (List.mem_of_getElem? hz) _ H' ((e.trans e2).trans p.1) ((p.2.set hu1 j1).set hu2 j2) _ fun σ2 H3 e3 n3 => ⟨p.1.trans e3, n3⟩
theorem thru_forT {xs : List D} {j : Nat} (hl : EvD tl ds H (.tup xs)) (hb : ∀ y ∈ xs, Thru tu (ds.set j (some y)) H ds) : Thru (tFor (iTup K tl) (gName j) tu) ds H ds := fun σ H1 e n E q =>
  hl σ H1 e n _ fun v H2 e2 hv => by
    obtain ⟨a, vs, rfl, ha, hvs⟩ := hv
    refine ⟨a, rfl, ⟨vs, SqT.of ha⟩, for_tup (xs := vs) (fun i σ' H' => Ex H2 H' ∧ EnvOk H' σ' ds) ⟨Same.refl _, n.mono e2⟩ (fun i σ' H' _ p => SqT.of (p.1 _ _ ha)) (fun i y σ' H' hi p => ?_) fun σ' H' p => q σ' H' (e2.trans p.1) p.2⟩
    obtain ⟨d, hd, hx⟩ := (hvs.mono p.1).getV hi
    exact hb d (List.mem_of_getElem? hd) _ H' ((e.trans e2).trans p.1) (p.2.set hx j) _ fun σ2 H3 e3 n3 => ⟨p.1.trans e3, n3⟩
/-- t[:3] of a row -/
theorem cut_to3 (a b c f : V) : cutV [a, b, c, f] none (some 3) = [a, b, c] ∧ ¬ (HT.sIx 4 0 none = 0 ∧ HT.sIx 4 4 (some 3) = 4) := ⟨rfl, by decide⟩
theorem ev_head3 {a b c f : D} (h : EvD ta ds H (.tup [a, b, c, f])) : EvD (tSl (rSlT K) ta tNoPart (tPart (tC (.int 3)))) ds H (.tup [a, b, c]) := fun σ H1 e n Q k =>
  h σ H1 e n _ fun v H2 e2 hv => by
    obtain ⟨p, vs, rfl, hp, u1, r1, rfl, h1, u2, r2, rfl, h2, u3, r3, rfl, h3, u4, r4, rfl, h4, h5⟩ := hv
    cases (show _ = _ from h5)
    obtain ⟨c1, c2⟩ := cut_to3 u1 u2 u3 u4
    refine ⟨3, rfl, p, _, rfl, SqT.of hp, c2, fun q hq => ?_⟩
    rw [c1]
    have en : Ex H2 (upd H2 q (.tup [u1, u2, u3])) := Ex.new hq
    exact k _ _ (e2.trans en) ⟨q, _, rfl, upd_same, .cons (h1.mono en) (.cons (h2.mono en) (.cons (h3.mono en) rfl))⟩
end
end Cs
set_option Elab.async false
set_option linter.all false
set_option maxRecDepth 100000
set_option maxHeartbeats 4000000
namespace Cs
open PySem PySem.Spec PyProof.Rows L2
/-! ### two that stand apart -/
def Apart (L M : List Addr) : Prop := ∀ b ∈ L, b ∉ M
def NewL (H : Hp) (L L' : List Addr) : Prop := ∀ b ∈ L', b ∈ L ∨ H b = none
theorem NewL.refl {H : Hp} {L : List Addr} : NewL H L L := fun b h => .inl h
theorem NewL.trans {H H1 : Hp} {L L1 L2 : List Addr} (a : NewL H L L1) (r : Fr L H H1) (b : NewL H1 L1 L2) : NewL H L L2 := fun c hc => by
  rcases b c hc with w | w
  · exact a c w
  · by_cases h : c ∈ L
    · exact .inl h
    · refine .inr ?_
      cases e : H c with
      | none => rfl
      | some o =>
        rw [r c o e h] at w
        cases w
theorem Fr.transL {H H1 H2 : Hp} {L L1 : List Addr} (a : Fr L H H1) (n : NewL H L L1) (b : Fr L1 H1 H2) : Fr L H H2 := fun c o h nc => b c o (a c o h nc) fun hc => by
  rcases n c hc with w | w
  · exact nc w
  · rw [w] at h
    cases h
theorem DictIs.tups {H H' : Hp} (ht : ∀ a vs, H a = some (.tup vs) → H' a = some (.tup vs)) : ∀ {kds : List (Key × D)} {kvs : List (Key × V)}, (∀ p ∈ kds, p.2.pure = true) → DictIs H kds kvs → DictIs H' kds kvs
  | [], _, _, h => h
  | p :: r, _, hp, ⟨v, t, e, h1, h2⟩ => ⟨v, t, e, h1.tups ht (hp p (by simp)), DictIs.tups ht (fun q hq => hp q (by simp [hq])) h2⟩
theorem pairs_pure (ps : List (Int × Int)) : D.pureL (ps.map pairD) = true := by
  induction ps with
  | nil => rfl
  | cons p r ih => exact (by rw [List.map_cons]; show (_ && _) = true; rw [ih]; rfl)
section
variable {C p q : Addr} {H H' : Hp} {F : Foot} {G : SFoot} {h : HS} {s : LS}
theorem isL_lst {a : Addr} {ps : List (Int × Int)} (r : ∀ o, H a = some o → H' a = some o) (ht : ∀ a vs, H a = some (.tup vs) → H' a = some (.tup vs)) (h : Is H (.lst (ps.map pairD)) (.ref a)) : Is H' (.lst (ps.map pairD)) (.ref a) := by
  obtain ⟨b, vs, e, hb, hl⟩ := h
  cases e
  exact ⟨a, vs, rfl, r _ hb, hl.tups ht (pairs_pure ps)⟩
theorem HAt.frame {L : List Addr} (x : HAt C H p F h) (r : Fr L H H') (ap : Apart (fp p F) L) (ht : ∀ a vs, H a = some (.tup vs) → H' a = some (.tup vs)) : HAt C H' p F h := by
  have m : ∀ b ∈ fp p F, ∀ o, H b = some o → H' b = some o := fun b hb o e => r b o e (ap b hb)
  refine ⟨m p (by simp [fp]) _ x.ob, ?_, ?_, isL_lst (m F.casts (by simp [fp])) ht x.ca, isL_lst (m F.pairs (by simp [fp])) ht x.pa, x.n1, x.n2⟩
  · obtain ⟨kvs, e, i⟩ := x.rw
    exact ⟨kvs, m F.rows (by simp [fp]) _ e, i.tups ht fun z hz => by
      obtain ⟨y, _, rfl⟩ := List.mem_map.mp hz
      exact y.2.pure⟩
  · obtain ⟨kvs, e, i⟩ := x.sh
    exact ⟨kvs, m F.shelved (by simp [fp]) _ e, i.tups ht fun z hz => by
      obtain ⟨y, _, rfl⟩ := List.mem_map.mp hz
      rfl⟩
theorem SAt.frame {L : List Addr} (x : SAt H q G s) (r : Fr L H H') (ap : Apart (sfp q G) L) (ht : ∀ a vs, H a = some (.tup vs) → H' a = some (.tup vs)) : SAt H' q G s := by
  have m : ∀ b ∈ sfp q G, ∀ o, H b = some o → H' b = some o := fun b hb o e => r b o e (ap b hb)
  refine ⟨?_, ?_, isL_lst (m G.casts (by simp [sfp])) ht x.ca, isL_lst (m G.ties (by simp [sfp])) ht x.ti, x.n1, x.n2⟩
  · obtain ⟨kvs, e, i⟩ := x.ob
    exact ⟨kvs, m q (by simp [sfp]) _ e, i.tups ht fun z hz => by
      simp only [stD, List.mem_cons, List.not_mem_nil, or_false] at hz
      rcases hz with rfl | rfl | rfl | rfl | rfl | rfl | rfl <;> rfl⟩
  · obtain ⟨kvs, e, i⟩ := x.rw
    exact ⟨kvs, m G.rows (by simp [sfp]) _ e, i.tups ht fun z hz => by
      obtain ⟨y, _, rfl⟩ := List.mem_map.mp hz
      exact y.2.pure⟩
end
theorem SqL.frame {K : PySem.W.Frag} {H H' : Hp} {a : Addr} {xs : List V} {L : List Addr} (h : SqL K H a xs) (r : Fr L H H') (ha : a ∈ L → H a = none) : SqL K H' a xs := by
  rcases h with h | h
  · refine .inl ?_
    rcases h with h | ⟨o, h⟩
    · exact .inl (r a _ h fun m => by rw [ha m] at h; cases h)
    · exact .inr ⟨o, r a _ h fun m => by rw [ha m] at h; cases h⟩
  · exact .inr h
end Cs
set_option Elab.async false
set_option linter.all false
set_option maxRecDepth 100000
set_option maxHeartbeats 4000000
namespace Cs
open PySem PySem.Spec PyProof.Rows L2
/-! ### tables -/
section
variable {α : Type} {l : List (Int × α)} {n m : Int} {a : α}
theorem get_none : get l n = none ↔ n ∉ l.map (·.1) := by
  rw [← get_mem]
  cases get l n <;> simp
theorem get_app {l' : List (Int × α)} : get (l ++ l') n = (get l n).or (get l' n) := by
  induction l with
  | nil => rfl
  | cons p r ih =>
    by_cases e : p.1 = n
    · rw [List.cons_append, get_pos e, get_pos e]
      rfl
    · rw [List.cons_append, get_neg e, get_neg e, ih]
theorem get_upd : get (l.map fun p => if p.1 = n then (p.1, a) else p) m = if m = n then (get l n).map fun _ => a else get l m := by
  induction l with
  | nil => by_cases e : m = n <;> simp [e, get_nil]
  | cons p r ih =>
    rw [List.map_cons]
    by_cases e1 : p.1 = n
    · rw [if_pos e1]
      by_cases e2 : m = n
      · rw [get_pos (p := (p.1, a)) (by rw [e1, e2]), if_pos e2, get_pos e1]
        rfl
      · rw [get_neg (p := (p.1, a)) (by show ¬ p.1 = m; rw [e1]; exact fun q => e2 q.symm), ih, if_neg e2, if_neg e2, get_neg (by rw [e1]; exact fun q => e2 q.symm)]
    · rw [if_neg e1]
      by_cases e3 : p.1 = m
      · have e2 : ¬ m = n := fun q => e1 (e3.trans q)
        rw [get_pos e3, if_neg e2, get_pos e3]
      · rw [get_neg e3, ih]
        by_cases e2 : m = n
        · rw [if_pos e2, if_pos e2, get_neg e1]
        · rw [if_neg e2, if_neg e2, get_neg e3]
theorem get_put : get (put l n a) m = if m = n then some a else get l m := by
  unfold put
  by_cases c : (get l n).isSome = true
  · rw [if_pos c, get_upd]
    by_cases e : m = n
    · rw [if_pos e, if_pos e]
      obtain ⟨x, hx⟩ := Option.isSome_iff_exists.mp c
      rw [hx]
      rfl
    · rw [if_neg e, if_neg e]
  · rw [if_neg c, get_app]
    have c' : get l n = none := by simpa using c
    by_cases e : m = n
    · rw [if_pos e, e, c', get_pos rfl]
      rfl
    · rw [if_neg e, get_neg (p := (n, a)) (fun q => e q.symm), get_nil]
      simp
theorem get_put_self : get (put l n a) n = some a := by rw [get_put, if_pos rfl]
theorem get_put_ne (h : m ≠ n) : get (put l n a) m = get l m := by rw [get_put, if_neg h]
theorem keys_put_old (h : (get l n).isSome = true) : (put l n a).map (·.1) = l.map (·.1) := by
  unfold put
  rw [if_pos h, List.map_map]
  refine List.map_congr_left fun p _ => ?_
  show (if p.1 = n then (p.1, a) else p).1 = p.1
  by_cases e : p.1 = n <;> simp [e]
theorem put_new (h : get l n = none) : put l n a = l ++ [(n, a)] := by
  unfold put
  rw [if_neg (by rw [h]; exact Bool.false_ne_true)]
theorem keys_put_new (h : get l n = none) : (put l n a).map (·.1) = l.map (·.1) ++ [n] := by
  rw [put_new h]
  simp
theorem put_map {β : Type} (f : Int → α → β) : (put l n a).map (fun p => (p.1, f p.1 p.2)) = put (l.map fun p => (p.1, f p.1 p.2)) n (f n a) := by
  unfold put
  rw [get_map, Option.isSome_map]
  by_cases c : (get l n).isSome = true
  · rw [if_pos c, if_pos c, List.map_map, List.map_map]
    refine List.map_congr_left fun p _ => ?_
    show (fun p : Int × α => (p.1, f p.1 p.2)) (if p.1 = n then (p.1, a) else p) = if p.1 = n then (p.1, f n a) else (p.1, f p.1 p.2)
    by_cases e : p.1 = n
    · rw [if_pos e, if_pos e]
      simp [e]
    · rw [if_neg e, if_neg e]
  · rw [if_neg c, if_neg c]
    simp
end
theorem abs_put (h : HS) (n : Int) (r : Row) : ({ h with rows := put h.rows n r } : HS).abs.rows = put h.abs.rows n ⟨r, get h.shelved n⟩ := put_map (β := LRow) fun n r => ⟨r, get h.shelved n⟩
theorem abs_noBox (h : HS) (par : Option Int) : h.abs.noBox par = h.noBox par := by
  cases par with
  | none => rfl
  | some n =>
    unfold LS.noBox HS.noBox
    dsimp only
    rw [abs_there, abs_get]
    cases get h.rows n <;> rfl
theorem abs_names (h : HS) (par but : Option Int) : h.abs.names par but = h.namesIn par but := by
  unfold LS.names HS.namesIn
  rw [abs_keys]
  have e1 : (fun n => h.abs.there (some n) && decide (some n ≠ but)) = fun n => h.there n && decide (some n ≠ but) := funext fun n => by rw [abs_there]
  rw [e1]
  refine fm_congr fun n _ => ?_
  rw [abs_get]
  cases get h.rows n <;> rfl
/-! ### what holds of all houses -/
structure HInv (h : HS) (b : Nat) : Prop where
  rl : h.rows.length ≤ b
  kn : h.keys.Nodup
  kb : ∀ k ∈ h.keys, 1 ≤ k ∧ k ≤ h.count
  c0 : 0 ≤ h.count
  sn : (h.shelved.map (·.1)).Nodup
  sub : ∀ k ∈ h.shelved.map (·.1), k ∈ h.keys
  cn : (h.casts.map (·.1)).Nodup
  cr : ∀ n ∈ h.casts.map (·.1), get h.shelved n = some n
  cs : ∀ k m, get h.shelved k = some m → m ∈ h.casts.map (·.1)
  pn : h.pairs.Nodup
  pe : ∀ q ∈ h.pairs, q.1 ∈ h.keys ∧ q.2 ∈ h.keys
  nm : ∀ n r, get h.rows n = some r → r.name.length ≤ 3 + 2 * b
  tx : h.textsOk
  pr : ∀ k r p, get h.rows k = some r → r.par = some p → get h.shelved k ≠ some k → ∃ r', get h.rows p = some r' ∧ r'.text = none ∧ get h.shelved p = get h.shelved k
  ac : ∃ rank : Int → Nat, ∀ k r p, get h.rows k = some r → r.par = some p → p ∈ h.keys → get h.shelved p = get h.shelved k → rank p < rank k
  pb : ∀ k r p, get h.rows k = some r → r.par = some p → p ≤ h.count
  bx : ∀ k r p r', get h.rows k = some r → r.par = some p → get h.rows p = some r' → r'.text = none
theorem sub_lenP {a : List (Int × Int)} {ks : List Int} (hn : a.Nodup) (hs : ∀ q ∈ a, q.1 ∈ ks ∧ q.2 ∈ ks) : a.length ≤ ks.length * ks.length := by
  have aux : ∀ {a b : List (Int × Int)}, a.Nodup → (∀ k ∈ a, k ∈ b) → a.length ≤ b.length := by
    intro a
    induction a with
    | nil => intro b _ _; exact Nat.zero_le _
    | cons x a ih =>
      intro b hn hs
      have hx : x ∈ b := hs x (by simp)
      have h1 := ih (b := b.erase x) (List.nodup_cons.mp hn).2 fun k hk => by
        have hne : k ≠ x := fun q => (List.nodup_cons.mp hn).1 (q ▸ hk)
        exact (List.mem_erase_of_ne hne).mpr (hs k (by simp [hk]))
      have h2 := List.length_erase_of_mem hx
      have h3 : 0 < b.length := List.length_pos_of_mem hx
      simp only [List.length_cons]
      omega
  have h := aux (b := ks.flatMap fun x => ks.map fun y => (x, y)) hn fun q hq => by
    obtain ⟨h1, h2⟩ := hs q hq
    exact List.mem_flatMap.mpr ⟨q.1, h1, List.mem_map.mpr ⟨q.2, h2, rfl⟩⟩
  refine Nat.le_trans h ?_
  rw [List.length_flatMap]
  have : (List.map (fun x => (List.map (fun y => (x, y)) ks).length) ks).sum = ks.length * ks.length := by
    have e : (fun x : Int => (List.map (fun y => (x, y)) ks).length) = fun _ => ks.length := funext fun x => List.length_map _
    rw [e, List.map_const', List.sum_replicate_nat]
  exact Nat.le_of_eq this
theorem HInv.klen {h : HS} {b : Nat} (i : HInv h b) : h.keys.length ≤ b := by
  unfold HS.keys
  rw [List.length_map]
  exact i.rl
theorem HInv.ck {h : HS} {b : Nat} (i : HInv h b) : ∀ n ∈ h.casts.map (·.1), n ∈ h.keys := fun n hn => i.sub n (get_key (i.cr n hn))
theorem HInv.clen {h : HS} {b : Nat} (i : HInv h b) : h.casts.length ≤ b := by
  have := sub_len i.cn i.ck
  rw [List.length_map] at this
  exact Nat.le_trans this i.klen
theorem HInv.plen {h : HS} {b : Nat} (i : HInv h b) : h.pairs.length ≤ b * b := Nat.le_trans (sub_lenP i.pn i.pe) (Nat.mul_le_mul i.klen i.klen)
theorem HInv.wf {h : HS} {b : Nat} (i : HInv h b) (hb : b < 64) : WF h := by
  refine ⟨Nat.lt_of_le_of_lt i.rl hb, i.kn, i.sn, i.sub, fun q hq => i.ck _ (List.mem_map.mpr ⟨q, hq, rfl⟩), Nat.lt_of_le_of_lt i.clen (by omega), ?_, i.tx⟩
  refine Nat.lt_of_le_of_lt i.plen (Nat.lt_of_le_of_lt (Nat.mul_le_mul (Nat.le_of_lt hb) (Nat.le_of_lt hb)) (by decide))
theorem HInv.mono {h : HS} {b b' : Nat} (i : HInv h b) (hb : b ≤ b') : HInv h b' := { i with rl := Nat.le_trans i.rl hb, nm := fun n r hr => by have := i.nm n r hr; omega }
theorem inv_empty (keep room : Int) : HInv (HS.empty keep room) 0 where
  rl := Nat.le_refl _
  kn := List.nodup_nil
  kb := fun k hk => by cases hk
  c0 := by show (0 : Int) ≤ 0; omega
  sn := List.nodup_nil
  sub := fun k hk => by cases hk
  cn := List.nodup_nil
  cr := fun k hk => by cases hk
  cs := fun k m hk => by cases hk
  pn := List.nodup_nil
  pe := fun k hk => by cases hk
  nm := fun n r hr => by cases hr
  tx := fun n r x hr => by cases hr
  pr := fun n r x hr => by cases hr
  ac := ⟨fun _ => 0, fun n r x hr => by cases hr⟩
  pb := fun n r x hr => by cases hr
  bx := fun n r x r' hr => by cases hr
theorem HInv.new_free {h : HS} {b : Nat} (i : HInv h b) {n : Int} (hn : h.count < n) : get h.rows n = none ∧ get h.shelved n = none := by
  have h1 : n ∉ h.keys := fun q => by have := (i.kb n q).2; omega
  exact ⟨get_none.mpr h1, get_none.mpr fun q => h1 (i.sub n q)⟩
/-- what stands in a box: a parent that is there, no sheet -/
theorem noBox_par {h : HS} {par : Option Int} (hb : h.noBox par = false) : ∀ p, par = some p → ∃ r, get h.rows p = some r ∧ r.text = none ∧ get h.shelved p = none := by
  rintro p rfl
  unfold HS.noBox at hb
  dsimp only at hb
  rw [Bool.or_eq_false_iff] at hb
  have ht : h.there p = true := by simpa using hb.1
  obtain ⟨r, hr⟩ := there_row ht
  refine ⟨r, hr, ?_, ?_⟩
  · rw [hr] at hb
    have := hb.2
    unfold isSheet at this
    simpa using this
  · unfold HS.there at ht
    have := (Bool.and_eq_true_iff.mp ht).2
    simpa using this
theorem HInv.new {h : HS} {b : Nat} (i : HInv h b) {par : Option Int} {nm : Str} {tx : Option Str} (hp : ∀ p, par = some p → ∃ r, get h.rows p = some r ∧ r.text = none ∧ get h.shelved p = none) (hn : nm.length ≤ 5 + 2 * b) (ht : ∀ x, tx = some x → x.length ≤ 1000) : HInv (h.new par nm tx) (b + 1) := by
  obtain ⟨f1, f2⟩ := i.new_free (n := h.count + 1) (by omega)
  have hk : (h.new par nm tx).keys = h.keys ++ [h.count + 1] := keys_put_new f1
  have hnk : h.count + 1 ∉ h.keys := get_none.mp f1
  have ne : ∀ {k : Int}, k ∈ h.keys → k ≠ h.count + 1 := fun hk q => hnk (q ▸ hk)
  have hg : ∀ {k : Int} {r : Row}, get (h.new par nm tx).rows k = some r → (k = h.count + 1 ∧ r = ⟨par, nm, tx⟩) ∨ (k ≠ h.count + 1 ∧ get h.rows k = some r) := fun {k r} q => by
    have q' : (if k = h.count + 1 then some ⟨par, nm, tx⟩ else get h.rows k) = some r := by rw [← get_put]; exact q
    by_cases e : k = h.count + 1
    · rw [if_pos e] at q'
      cases q'
      exact .inl ⟨e, rfl⟩
    · rw [if_neg e] at q'
      exact .inr ⟨e, q'⟩
  refine ⟨?_, ?_, ?_, ?_, i.sn, ?_, i.cn, i.cr, i.cs, i.pn, ?_, ?_, ?_, ?_, ?_, ?_, ?_⟩
  · show (put h.rows _ _).length ≤ _
    rw [put_new f1, List.length_append]
    have := i.rl
    simp only [List.length_cons, List.length_nil]
    omega
  · rw [hk]
    refine List.nodup_append.mpr ⟨i.kn, by simp, fun a ha b hb => ?_⟩
    simp only [List.mem_cons, List.not_mem_nil, or_false] at hb
    rw [hb]
    exact ne ha
  · intro k hk'
    rw [hk] at hk'
    show 1 ≤ k ∧ k ≤ h.count + 1
    have := i.c0
    rcases List.mem_append.mp hk' with q | q
    · have := i.kb k q
      omega
    · simp only [List.mem_cons, List.not_mem_nil, or_false] at q
      omega
  · show 0 ≤ h.count + 1
    have := i.c0
    omega
  · intro k hk'
    rw [hk]
    exact List.mem_append_left _ (i.sub k hk')
  · intro q hq
    rw [hk]
    exact ⟨List.mem_append_left _ (i.pe q hq).1, List.mem_append_left _ (i.pe q hq).2⟩
  · intro n r hr
    rcases hg hr with ⟨_, rfl⟩ | ⟨_, q⟩
    · show nm.length ≤ _
      omega
    · have := i.nm n r q
      omega
  · intro n r x hr hx
    rcases hg hr with ⟨_, rfl⟩ | ⟨_, q⟩
    · exact ht x hx
    · exact i.tx n r x q hx
  · intro k r p hr hpar hs
    have lift : ∀ {p : Int} {r' : Row}, get h.rows p = some r' → get (h.new par nm tx).rows p = some r' := fun {p r'} q => by
      show get (put h.rows _ _) p = _
      rw [get_put_ne (ne (get_key q))]
      exact q
    rcases hg hr with ⟨rfl, rfl⟩ | ⟨e, q⟩
    · obtain ⟨r', h1, h2, h3⟩ := hp p hpar
      exact ⟨r', lift h1, h2, h3.trans f2.symm⟩
    · obtain ⟨r', h1, h2, h3⟩ := i.pr k r p q hpar hs
      exact ⟨r', lift h1, h2, h3⟩
  · obtain ⟨rank, hr⟩ := i.ac
    refine ⟨fun n => if n = h.count + 1 then (par.elim 0 fun p => rank p + 1) else rank n, fun k r p hrk hpar hpk hsh => ?_⟩
    have hpn : p ∈ h.keys := by
      rw [hk] at hpk
      rcases List.mem_append.mp hpk with q | q
      · exact q
      · simp only [List.mem_cons, List.not_mem_nil, or_false] at q
        subst q
        rcases hg hrk with ⟨rfl, rfl⟩ | ⟨e, q⟩
        · obtain ⟨r', h1, _⟩ := hp _ hpar
          exact get_key h1
        · have hs : get h.shelved k ≠ some k := by
            intro z
            have : get h.shelved (h.count + 1) = some k := hsh.trans z
            rw [f2] at this
            cases this
          obtain ⟨r', h1, _⟩ := i.pr k r _ q hpar hs
          exact get_key h1
    show (if p = h.count + 1 then _ else rank p) < (if k = h.count + 1 then _ else rank k)
    rw [if_neg (ne hpn)]
    rcases hg hrk with ⟨rfl, rfl⟩ | ⟨e, q⟩
    · rw [if_pos rfl]
      have hpar' : par = some p := hpar
      rw [hpar']
      exact Nat.lt_succ_self _
    · rw [if_neg e]
      exact hr k r p q hpar hpn hsh
  · intro k r p hr hpar
    show p ≤ h.count + 1
    rcases hg hr with ⟨_, rfl⟩ | ⟨_, q⟩
    · obtain ⟨r', h1, _⟩ := hp p hpar
      have := (i.kb p (get_key h1)).2
      omega
    · have := i.pb k r p q hpar
      omega
  · intro k r p r' hr hpar hr'
    rcases hg hr' with ⟨rfl, rfl⟩ | ⟨e, q'⟩
    · exfalso
      rcases hg hr with ⟨_, rfl⟩ | ⟨_, q⟩
      · obtain ⟨r2, h1, _⟩ := hp _ hpar
        rw [f1] at h1
        cases h1
      · have := i.pb k r _ q hpar
        omega
    · rcases hg hr with ⟨_, rfl⟩ | ⟨_, q⟩
      · obtain ⟨r2, h1, h2, _⟩ := hp p hpar
        rw [q'] at h1
        cases h1
        exact h2
      · exact i.bx k r p r' q hpar q'
/-- a row that stands is put anew: its name, its text -/
theorem HInv.reput {h : HS} {b : Nat} (i : HInv h b) {n : Int} {r r' : Row} (hr : get h.rows n = some r) (hp : r'.par = r.par) (ht : r'.text.isNone = r.text.isNone) (hn : r'.name.length ≤ 5 + 2 * b) (hx : ∀ x, r'.text = some x → x.length ≤ 1000) : HInv { h with rows := put h.rows n r' } (b + 1) := by
  have hk : ({ h with rows := put h.rows n r' } : HS).keys = h.keys := keys_put_old (by rw [hr]; rfl)
  have hg : ∀ {k : Int} {q : Row}, get (put h.rows n r') k = some q → ∃ q0, get h.rows k = some q0 ∧ q.par = q0.par ∧ q.text.isNone = q0.text.isNone ∧ (q = r' ∨ q = q0) := fun {k q} z => by
    rw [get_put] at z
    by_cases e : k = n
    · rw [if_pos e] at z
      cases z
      exact ⟨r, by rw [e]; exact hr, hp, ht, .inl rfl⟩
    · rw [if_neg e] at z
      exact ⟨q, z, rfl, rfl, .inr rfl⟩
  refine ⟨?_, by rw [hk]; exact i.kn, by rw [hk]; exact i.kb, i.c0, i.sn, by rw [hk]; exact i.sub, i.cn, i.cr, i.cs, i.pn, by rw [hk]; exact i.pe, ?_, ?_, ?_, ?_, ?_, ?_⟩
  · have : ({ h with rows := put h.rows n r' } : HS).keys.length = h.keys.length := by rw [hk]
    simp only [HS.keys, List.length_map] at this
    have := i.rl
    show (put h.rows n r').length ≤ b + 1
    omega
  · intro k q hq
    obtain ⟨q0, h1, _, _, h2⟩ := hg hq
    rcases h2 with rfl | rfl
    · omega
    · have := i.nm k q h1
      omega
  · intro k q x hq hqx
    obtain ⟨q0, h1, _, _, h2⟩ := hg hq
    rcases h2 with rfl | rfl
    · exact hx x hqx
    · exact i.tx k q x h1 hqx
  · intro k q p hq hpar hs
    obtain ⟨q0, h1, h2, _, _⟩ := hg hq
    obtain ⟨r1, g1, g2, g3⟩ := i.pr k q0 p h1 (h2 ▸ hpar) hs
    show ∃ r'_1, get (put h.rows n r') p = some r'_1 ∧ _
    by_cases e : p = n
    · subst e
      refine ⟨r', get_put_self, ?_, g3⟩
      rw [hr] at g1
      cases g1
      have : r'.text.isNone = true := by rw [ht, g2]; rfl
      simpa using this
    · exact ⟨r1, by rw [get_put_ne e]; exact g1, g2, g3⟩
  · obtain ⟨rank, hrk⟩ := i.ac
    refine ⟨rank, fun k q p hq hpar hpk hsh => ?_⟩
    obtain ⟨q0, h1, h2, _, _⟩ := hg hq
    rw [hk] at hpk
    exact hrk k q0 p h1 (h2 ▸ hpar) hpk hsh
  · intro k q p hq hpar
    obtain ⟨q0, h1, h2, _, _⟩ := hg hq
    exact i.pb k q0 p h1 (h2 ▸ hpar)
  · intro k q p q' hq hpar hq'
    obtain ⟨q0, h1, h2, _, _⟩ := hg hq
    obtain ⟨q1, g1, _, g3, _⟩ := hg hq'
    have := i.bx k q0 p q1 h1 (h2 ▸ hpar) g1
    rw [this] at g3
    simpa using g3
end Cs
set_option Elab.async false
set_option linter.all false
set_option maxRecDepth 100000
set_option maxHeartbeats 4000000
namespace Cs
open PySem PySem.Spec PyProof.Rows L2
/-! ### what is in a thing: the law's own way -/
theorem get_keyI {α : Type} {l : List (Int × α)} {n : Int} {a : α} (h : get l n = some a) : n ∈ l.map (·.1) := get_mem.mp (by rw [h]; rfl)
theorem there_none {h : HS} {k : Int} (ht : h.there k = true) : get h.shelved k = none := by
  unfold HS.there at ht
  have := (Bool.and_eq_true_iff.mp ht).2
  simpa using this
def Tree (h : HS) : Prop := ∃ rank : Int → Nat, ∀ k r p, get h.rows k = some r → h.there k = true → r.par = some p → h.there p = true ∧ rank p < rank k
theorem HInv.tree {h : HS} {b : Nat} (i : HInv h b) : Tree h := by
  obtain ⟨rank, hr⟩ := i.ac
  refine ⟨rank, fun k r p hk ht hp => ?_⟩
  have hs := there_none ht
  obtain ⟨r', h1, _, h3⟩ := i.pr k r p hk hp (by rw [hs]; exact fun z => by cases z)
  have hpk : p ∈ h.keys := get_keyI h1
  exact ⟨shelved_there hpk (h3.trans hs), hr k r p hk hp hpk h3⟩
theorem desc_up {h : HS} {n k : Int} (hne : k ≠ n) : Desc h n k ↔ h.there k = true ∧ ∃ r p, get h.rows k = some r ∧ r.par = some p ∧ Desc h n p := by
  constructor
  · intro d
    cases d with
    | self => exact absurd rfl hne
    | step hr hp ht d => exact ⟨ht, _, _, hr, hp, d⟩
  · rintro ⟨ht, r, p, hr, hp, d⟩
    exact .step hr hp ht d
def Chain (h : HS) (n one : Int) : Option Int → Prop
  | none => ¬ Desc h n one
  | some k => Desc h n one ↔ Desc h n k
open Classical in
noncomputable def descB (h : HS) (n k : Int) : Bool := decide (Desc h n k)
open Classical in
theorem descB_t {h : HS} {n k : Int} : descB h n k = true ↔ Desc h n k := ⟨fun q => of_decide_eq_true q, fun q => decide_eq_true q⟩
theorem descB_f {h : HS} {n k : Int} (q : ¬ Desc h n k) : descB h n k = false := by
  cases c : descB h n k with
  | false => rfl
  | true => exact absurd (descB_t.mp c) q
def sp_law_within (K : PySem.W.Frag) : Sp := lsp fun H as d => ∃ q G h n, as = [.obj q, .int n] ∧ SRd H q G h.abs ∧ h.there n = true ∧ h.rows.length < 64 ∧ Tree h ∧ d = (h.wholeL n).map D.int
theorem ok_law_within {P : Program} {w : World} {K : PySem.W.Frag} {mg : Str → Option Value} {base : Heap} (S : Says K mg) : Fk P w K mg base 2 (He.fAd K ("_law_within", none)) ["state", "number"] (sp_law_within K) := by
  have G_law_there := ok_law_there (P := P) (w := w) (base := base) S
  refine mk_l S.df_law_within sc_law_within ?_ (by decide) fun cdv A outer s0 H H0 Q E as d bd hp k => ?_
  · rintro H as d ⟨q, G, h, n, rfl, _⟩
    rfl
  · obtain ⟨q, G, h, n, rfl, x, ht, hl, ⟨rank, tree⟩, rfl⟩ := hp
    obtain ⟨hr, tk, px, hu, hu65⟩ := bd
    refine ⟨_, (pss_cons (ps_set (i := 2) sc_law_within.nd rfl (Or.inl rfl) (pe_lst pa_nil))
      (pss_cons (ps_for (passes_of rfl) rfl (pi_list (pe_callB (call_sortedDI rfl) (by rfl) S.free_sorted (by decide +kernel) (pa_cons (pe_dget hu (pv 0) (pe_str) (fun _ _ => rfl)) pa_nil))) (pg_name (i := 3) sc_law_within.nd rfl (Or.inl rfl)) (pss_cons (ps_set (i := 4) sc_law_within.nd rfl (Or.inl rfl) (pv 3))
      (pss_cons (ps_while (passes_of rfl) (PW.pt (pw_and (pt_cmp (pc_notN (pv 4))) (pw_and1 (pt_cmpR op_ne (pv 4) (pv 1) (nomark _))))) (pss_one (ps_set (i := 4) sc_law_within.nd rfl (Or.inl rfl) (pe_ifExp (pt_val (pe_cf G_law_there (hr.mono (by decide)) (by rfl) S.glo__law_there px (pa_cons (pv 0) (pa_cons (pv 4) pa_nil)))) (pe_ix ix_tup (pe_dget hu (pe_dget hu (pv 0) (pe_str) (fun _ _ => rfl)) (pv 4) (fun _ _ => rfl)) (pe_int) (fun _ _ => rfl)) (pe_non)))))
      (pss_one (ps_if (PW.pt (pw_and (pt_cmpR op_eq (pv 4) (pv 1) (nomark _)) (pw_and1 (pt_val (pe_cf G_law_there (hr.mono (by decide)) (by rfl) S.glo__law_there px (pa_cons (pv 0) (pa_cons (pv 3) pa_nil))))))) (pss_one (ps_expr (pe_bm PySem.F.plainAttrs_list PySem.F.slot_list_append PySem.F.type_list_append mt_append (pv 2) (pa_cons (pv 3) pa_nil)))) pss_nil)))))
      (pss_one (ps_ret (pv 2))))), ?_⟩
    have hkl : h.keys.length < 64 := by unfold HS.keys; rw [List.length_map]; exact hl
    refine go_asgNew (el_lst (xs := []) ea_nil (by simp)) fun l vs H2 hn2 e2 hv hi => ?_
    have hvs : vs = [] := hi
    subst hvs
    have x2 := x.mono e2
    refine go_forN (ι := List Int) (ns := sortI h.keys) [l] (fun b hb => by rw [List.mem_singleton.mp hb, hv]; exact fun z => by cases z) (el_sortedDI x2.rw (by rw [kds_keys]; exact congrArg _ (abs_keys h)) hkl (s_rows x2 (ev_var rfl)))
      (fun i gl H' => Ex H H' ∧ H' l = some (.lst (gl.map V.int)) ∧ gl = ((sortI h.keys).take i).filter (descB h n)) (fun _ => [some (.obj q), some (.int n), some (.obj l), none, none]) [] rfl (fun H' e => ⟨e2.trans e, e _ _ hv, rfl⟩) (fun i one gl H3 hk pg M hM => ?_) (fun gl H3 pg => ?_)
    · obtain ⟨ex3, hg, hgl⟩ := pg
      have x3 := x.mono ex3
      have hkk : one ∈ h.keys := mem_sortI.mp (List.mem_of_getElem? hk)
      have hsucc : ((sortI h.keys).take (i + 1)).filter (descB h n) = gl ++ (if descB h n one = true then [one] else []) := by
        rw [List.take_succ, hk, List.filter_append, ← hgl]
        congr 1
        show List.filter (descB h n) [one] = _
        by_cases c : descB h n one = true <;> simp [c]
      refine go_asg (x := oI (some one)) (ev_var rfl) ?_
      refine go_while (ι := Option Int) (fun o H' => Ex H3 H' ∧ Chain h n one o ∧ (∀ k, o = some k → k ∈ h.keys)) (fun o => [some (.obj q), some (.int n), some (.obj l), some (.int one), some (oI o)]) (fun o => o.elim 0 fun k => rank k + 1) (some one) rfl (fun H' e => ⟨e, Iff.rfl, fun k z => by cases z; exact hkk⟩) fun o H4 po => ?_
      obtain ⟨ex4, ch, ok⟩ := po
      have x4 := x3.mono ex4
      refine ⟨decide (o ≠ none ∧ o ≠ some n), eb_is (eb_and (eb_B (ev_notN (ev_var rfl) (notN_oI o))) fun _ => eb_test (ev_op (ev_var rfl) (ev_var rfl) (op_neF (oI_flat _) rfl (oI_scal o (some n))))) ?_, fun hb N hN => ?_, fun hb => ?_⟩
      · rw [show (D.int n).val = (oI (some n)).val from rfl, oI_val]
        cases o <;> simp
      · obtain ⟨h1, h2⟩ := of_decide_eq_true hb
        obtain ⟨k, rfl⟩ := Option.ne_none_iff_exists'.mp h1
        have hkn : k ≠ n := fun z => h2 (by rw [z])
        have hkk' := ok k rfl
        obtain ⟨r, hr'⟩ := keys_row hkk'
        have hr2 : get h.abs.rows k = some ⟨r, get h.shelved k⟩ := by rw [abs_get, hr']; rfl
        have cu := desc_up (h := h) (n := n) hkn
        refine go_last (go_asg (x := oI (if h.there k = true then r.par else none)) (ev_if (b := h.there k) (eb_B (ev_is (s_there x4 (ev_var rfl) (ev_var rfl)) (by rw [abs_there]))) (fun c => ev_is (s_par x4 (ev_var rfl) (ev_var rfl) hr2) (by rw [if_pos c])) (fun c => ev_is ev_non (by rw [if_neg (by rw [c]; exact Bool.false_ne_true)]; rfl))) (go_next fun σ H5 e5 n5 => hN (if h.there k = true then r.par else none) σ H5 ⟨ex4.trans e5, ?_, ?_⟩ ?_ n5))
        · by_cases c : h.there k = true
          · rw [if_pos c]
            cases hp : r.par with
            | none =>
              intro dd
              obtain ⟨_, r', p, g1, g2, _⟩ := cu.mp (ch.mp dd)
              rw [hr'] at g1
              cases g1
              rw [hp] at g2
              cases g2
            | some p =>
              refine ch.trans (cu.trans ⟨fun ⟨_, r', p', g1, g2, g3⟩ => ?_, fun dd => ⟨c, r, p, hr', hp, dd⟩⟩)
              rw [hr'] at g1
              cases g1
              rw [hp] at g2
              cases g2
              exact g3
          · rw [if_neg c]
            exact fun dd => c (cu.mp (ch.mp dd)).1
        · intro k' hk'
          by_cases c : h.there k = true
          · rw [if_pos c] at hk'
            obtain ⟨tp, _⟩ := tree k r k' hr' c hk'
            obtain ⟨r', g⟩ := there_row tp
            exact get_keyI g
          · rw [if_neg c] at hk'
            cases hk'
        · by_cases c : h.there k = true
          · rw [if_pos c]
            cases hp : r.par with
            | none => exact Nat.succ_pos _
            | some p => exact Nat.succ_lt_succ (tree k r p hr' c hp).2
          · rw [if_neg c]
            exact Nat.succ_pos _
      · have hend : descB h n one = decide (o = some n) := by
          have hb' : ¬ (o ≠ none ∧ o ≠ some n) := of_decide_eq_false hb
          cases o with
          | none => rw [descB_f (show ¬ Desc h n one from ch), decide_eq_false (by intro z; cases z)]
          | some k =>
            have hkn : k = n := Decidable.byContradiction fun z => hb' ⟨by simp, fun w => z (Option.some.inj w)⟩
            rw [descB_t.mpr ((show Desc h n one ↔ Desc h n _ from ch).mpr (by rw [hkn]; exact .self)), decide_eq_true (by rw [hkn])]
        have isG : Is H4 (.lst (gl.map D.int)) (.ref l) := ⟨l, _, rfl, ex4 _ _ hg, isL_ints _ _⟩
        have gl_le : gl.length ≤ h.keys.length := by
          rw [hgl]
          refine Nat.le_trans (List.length_filter_le _ _) (Nat.le_trans (List.length_take_le' _ _) ?_)
          rw [sortI_len]
          exact Nat.le_refl _
        refine go_last (go_ifs (b := descB h n one) (eb_is (eb_and (b := decide (o = some n)) (c := h.there one) (eb_is (eb_test (ev_op (ev_var rfl) (ev_var rfl) (op_eqF (oI_flat _) rfl (oI_scal o (some n))))) ?_) fun _ => eb_B (ev_is (s_there x4 (ev_var rfl) (ev_var rfl)) (by rw [abs_there]))) ?_) (fun c => ?_) (fun c => ?_))
        · rw [show (D.int n).val = (oI (some n)).val from rfl, oI_val]
        · rw [← hend]
          cases c : descB h n one with
          | false => rfl
          | true => rw [Desc.there ht (descB_t.mp c)]; rfl
        · refine go_last (go_append (xs := gl.map D.int) (ex4 _ _ hg) (isL_ints _ _) (by rw [List.length_map]; omega) (ints_pure gl) rfl (by cases o <;> rfl) (ev_var rfl) (ev_var rfl) fun u H5 b5 hg5 il5 => ?_)
          have hu5 : gl.map V.int ++ [u] = (gl ++ [one]).map V.int := IsL.ints (ns := gl ++ [one]) (H := H5) (vs := gl.map V.int ++ [u]) (by rw [List.map_append]; exact il5)
          rw [hu5] at hg5
          refine go_next fun σ H6 e6 n6 => hM (gl ++ [one]) σ H6 ⟨(Ex.but (ex3.trans ex4) hn2 b5).trans e6, e6 _ _ hg5, ?_⟩ (fun b o hb nb => e6 _ _ (b5 b o (ex4 _ _ hb) fun z => nb (by rw [z]; simp))) ((n6.forget 3).forget 4)
          rw [hsucc, if_pos c]
        · refine go_next fun σ H6 e6 n6 => hM gl σ H6 ⟨(ex3.trans ex4).trans e6, e6 _ _ (ex4 _ _ hg), ?_⟩ (Fr.of_ex (ex4.trans e6)) ((n6.forget 3).forget 4)
          rw [hsucc, if_neg (by rw [c]; exact Bool.false_ne_true), List.append_nil]
    · obtain ⟨ex3, hg, hgl⟩ := pg
      rw [List.take_length] at hgl
      have : gl = h.wholeL n := hgl
      subst this
      refine go_ret (d := .obj l) (ev_var rfl) fun v H4 e4 hv4 => ?_
      cases (show _ = _ from hv4)
      exact k l _ H4 hn2 (ex3.trans e4) (e4 _ _ hg) (isL_ints _ _)
theorem s_within {K : PySem.W.Frag} {H : Hp} {q : Addr} {G : SFoot} {h : HS} {n : Int} {ds : List (Option D)} {ta tn : TE} {X : XK} (x : SRd H q G h.abs) (ht : h.there n = true) (hl : h.rows.length < 64) (tr : Tree h) (ho : EvD ta ds H (.obj q)) (hn : EvD tn ds H (.int n)) :
    EvD (tCall (sp_law_within K) [] X (tCons ta (tCons tn tNil))) ds H (.lst ((h.wholeL n).map D.int)) := ev_call (ea_cons ho (ea_cons hn ea_nil)) (lsp_pr fun H' e => ⟨q, G, h, n, rfl, x.mono e, ht, hl, tr, rfl⟩)
end Cs
set_option Elab.async false
set_option linter.all false
set_option maxRecDepth 100000
set_option maxHeartbeats 4000000
namespace Cs
open PySem PySem.Spec PyProof.Rows L2
/-! ### list.remove of what is data -/
abbrev rRemD (K : PySem.W.Frag) : V → List V → Hp → VK → Prop := fun x xs H Q => ∃ (l : Addr) (y : V) (vs : List V) (d : PyData) (ps : List PyData) (j : Nat), x = .ref l ∧ xs = [y] ∧ H l = some (.lst vs) ∧ DpAll K H vs ps ∧ Dp K H y d ∧ PyData.plainAll ps = true ∧ d.plain = true ∧ d.depth ≤ 64 ∧
  SeqAt.dataPlace ps d = some j ∧ Q .non (upd H l (.lst (vs.eraseIdx j)))
theorem mt_removeD {X : Cx} (hu : X.A.units + 65 < cLine) : MtM X "list.remove" (rRemD X.K) := by
  intro pins s σ H x xs v us Q I rx rxs h
  obtain ⟨l, y, vs, d, ps, j, rfl, rfl, hl, ha, hd, p1, p2, dep, hj, q⟩ := h
  cases rx
  obtain ⟨u, rfl, ru⟩ := rxs.one
  obtain ⟨z, its, n, r, hlen, e⟩ := I.lstM hl
  obtain ⟨as, h1⟩ := Dp.readsAll I ps _ its ha r
  obtain ⟨bs, h2⟩ := Dp.reads I d y u hd ru
  have room : X.A.units + 1 + min (PyData.depthAll ps) d.depth < cLine := by
    have := Nat.min_le_right (PyData.depthAll ps) d.depth
    omega
  refine SeqAt.remove_list_data (vs := its.toArray) ⟨_, e, rfl, n, rfl⟩ (show ReadsAll s.heap its.toArray.toList ps as from h1) h2 p1 p2 room hj (by rw [List.size_toArray]; omega) ?_
  refine ⟨.non, _, I.lset (its' := its.eraseIdx j) (t' := s.toks) hl e ?_ (r.eraseIdx j) ?_, rfl, q⟩
  · show its.toArray.eraseIdxIfInBounds j = (its.eraseIdx j).toArray
    rw [List.eraseIdxIfInBounds_toArray]
  · have := List.length_eraseIdx_le vs j
    omega
/-! ### pairs as data -/
def pyP (q : Int × Int) : PyData := .tuple [.int q.1, .int q.2]
theorem pyP_eqv (a b : Int × Int) : PyData.eqv (pyP a) (pyP b) = decide (a = b) := by
  obtain ⟨a1, a2⟩ := a
  obtain ⟨b1, b2⟩ := b
  have e : PyData.eqv (pyP (a1, a2)) (pyP (b1, b2)) = ((a1 == b1) && ((a2 == b2) && true)) := by simp only [pyP, PyData.eqv, PyData.eqvAll]
  rw [e, Bool.and_true]
  by_cases c1 : a1 = b1 <;> by_cases c2 : a2 = b2 <;> simp [c1, c2]
theorem pyP_depth (a : Int × Int) : (pyP a).depth = 1 := by simp [pyP, PyData.depth, PyData.depthAll]
theorem pyP_plain (a : Int × Int) : (pyP a).plain = true := by simp [pyP, PyData.plain, PyData.plainAll]
theorem pyP_lay (a : Int × Int) : (pyP a).canLay0 = true := by simp [pyP, PyData.canLay0, PyData.canLayAll0]
theorem pyP_plainA : ∀ ps : List (Int × Int), PyData.plainAll (ps.map pyP) = true
  | [] => by simp [PyData.plainAll]
  | a :: r => by simp [PyData.plainAll, pyP_plain a, pyP_plainA r]
theorem pyP_layA : ∀ ps : List (Int × Int), PyData.canLayAll0 (ps.map pyP) = true
  | [] => by simp [PyData.canLayAll0]
  | a :: r => by simp [PyData.canLayAll0, pyP_lay a, pyP_layA r]
theorem pyP_depthA : ∀ ps : List (Int × Int), PyData.depthAll (ps.map pyP) ≤ 1
  | [] => by simp [PyData.depthAll]
  | a :: r => by
    have h1 := pyP_depthA r
    have h2 := pyP_depth a
    simp only [List.map_cons, PyData.depthAll]
    omega
theorem pyP_shaped (a : Int × Int) : SeqAt.shaped (pyP a) = true := by
  have h := pyP_depth a
  show ((pyP a).canLay0 && decide ((pyP a).depth ≤ 64)) = true
  rw [pyP_lay, decide_eq_true (by omega)]
  rfl
theorem pyP_shapedL (ps : List (Int × Int)) : SeqAt.shaped (.list (ps.map pyP)) = true := by
  have h1 := pyP_depthA ps
  have h2 : PyData.depth (.list (ps.map pyP)) ≤ 64 := by
    simp only [PyData.depth]
    omega
  show (PyData.canLay0 (.list (ps.map pyP)) && decide (PyData.depth (.list (ps.map pyP)) ≤ 64)) = true
  rw [decide_eq_true h2, Bool.and_true]
  simp only [PyData.canLay0]
  exact pyP_layA ps
section
variable {K : PySem.W.Frag} {H : Hp}
theorem dp_pair {q : Int × Int} {v : V} (h : Is H (pairD q) v) : Dp K H v (pyP q) := by
  obtain ⟨a, vs, rfl, ha, v1, r1, rfl, h1, v2, r2, rfl, h2, h3⟩ := h
  cases (show _ = _ from h1)
  cases (show _ = _ from h2)
  cases (show _ = _ from h3)
  exact .tup (SqT.of ha) (.cons (.int _) (.cons (.int _) .nil))
theorem dp_pairs : ∀ {ps : List (Int × Int)} {vs : List V}, IsL H (ps.map pairD) vs → DpAll K H vs (ps.map pyP)
  | [], _, h => by cases (show _ = _ from h); exact .nil
  | _ :: _, _, ⟨_, _, e, h1, h2⟩ => by subst e; exact .cons (dp_pair h1) (dp_pairs h2)
theorem any_pairs (ps : List (Int × Int)) (q : Int × Int) : ((ps.map pyP).any fun z => PyData.eqv z (pyP q)) = decide (q ∈ ps) := by
  induction ps with
  | nil => rfl
  | cons a r ih =>
    rw [List.map_cons, List.any_cons, ih, pyP_eqv]
    by_cases c : a = q
    · simp [c]
    · have c' : ¬ q = a := fun z => c z.symm
      simp [c, c']
theorem op_inP {ps : List (Int × Int)} {q : Int × Int} : Op (rInD K) H (pairD q) (.lst (ps.map pairD)) (.bl (decide (q ∈ ps))) := fun H1 e x y hx hy Q k => by
  obtain ⟨a, vs, rfl, ha, hl⟩ := hy
  refine ⟨pyP q, ps.map pyP, dp_pair hx, .lst (SqL.of ha) (dp_pairs hl), pyP_shaped q, pyP_shapedL ps, ?_⟩
  rw [any_pairs]
  exact k _ H1 (Same.refl _) rfl
theorem op_notInP {ps : List (Int × Int)} {q : Int × Int} : Op (rNotInD K) H (pairD q) (.lst (ps.map pairD)) (.bl (!decide (q ∈ ps))) := fun H1 e x y hx hy Q k => by
  obtain ⟨a, vs, rfl, ha, hl⟩ := hy
  refine ⟨pyP q, ps.map pyP, dp_pair hx, .lst (SqL.of ha) (dp_pairs hl), pyP_shaped q, pyP_shapedL ps, ?_⟩
  rw [any_pairs]
  exact k _ H1 (Same.refl _) rfl
theorem place_pairs {q : Int × Int} : ∀ {ps : List (Int × Int)}, q ∈ ps → ∃ j, SeqAt.dataPlace (ps.map pyP) (pyP q) = some j ∧ ps.eraseIdx j = ps.erase q
  | [], h => by cases h
  | a :: r, h => by
    unfold SeqAt.dataPlace
    rw [List.map_cons, List.findIdx?_cons, pyP_eqv]
    by_cases c : a = q
    · rw [decide_eq_true c]
      refine ⟨0, rfl, ?_⟩
      rw [c]
      simp
    · rw [decide_eq_false c]
      have h' : q ∈ r := by
        rcases List.mem_cons.mp h with z | z
        · exact absurd z.symm c
        · exact z
      obtain ⟨j, h1, h2⟩ := place_pairs h'
      unfold SeqAt.dataPlace at h1
      refine ⟨j + 1, by rw [h1]; rfl, ?_⟩
      rw [List.eraseIdx_cons_succ, h2, List.erase_cons_tail (by simpa using c)]
theorem isL_erase {ps : List (Int × Int)} {vs : List V} (j : Nat) (h : IsL H (ps.map pairD) vs) : IsL H ((ps.eraseIdx j).map pairD) (vs.eraseIdx j) := by
  induction ps generalizing vs j with
  | nil => cases (show _ = _ from h); exact rfl
  | cons a r ih =>
    obtain ⟨v, t, rfl, h1, h2⟩ := h
    cases j with
    | zero => exact h2
    | succ j => exact ⟨v, _, rfl, h1, ih j h2⟩
end
end Cs
set_option Elab.async false
set_option linter.all false
set_option maxRecDepth 100000
set_option maxHeartbeats 4000000
namespace Cs
open PySem PySem.Spec PyProof.Rows L2
/-! ### a name that is free -/
def numS (n : Int) : Str := toString n
def cand (name : Str) (k : Nat) : Str := name ++ numS (k : Int)
def candL (name : Str) (m : Nat) : List Str := (List.range m).map fun i => cand name (i + 2)
def freeV (name : Str) (taken : List Str) : Str := ((name :: candL name (taken.length + 1)).find? fun x => decide (x ∉ taken)).getD name
theorem sub_lenS : ∀ {a b : List Str}, a.Nodup → (∀ k ∈ a, k ∈ b) → a.length ≤ b.length
  | [], _, _, _ => Nat.zero_le _
  | x :: a, b, hn, hs => by
    have hx : x ∈ b := hs x (by simp)
    have h1 := sub_lenS (a := a) (b := b.erase x) (List.nodup_cons.mp hn).2 fun k hk => by
      have hne : k ≠ x := fun q => (List.nodup_cons.mp hn).1 (q ▸ hk)
      exact (List.mem_erase_of_ne hne).mpr (hs k (by simp [hk]))
    have h2 := List.length_erase_of_mem hx
    have h3 : 0 < b.length := List.length_pos_of_mem hx
    simp only [List.length_cons]
    omega
theorem num_inj : ∀ i : Nat, i < 80 → ∀ j : Nat, j < 80 → numS ((i + 2 : Nat) : Int) = numS ((j + 2 : Nat) : Int) → i = j := by decide +kernel
theorem num_len : ∀ i : Nat, i < 80 → (numS ((i + 2 : Nat) : Int)).length ≤ 2 := by decide +kernel
theorem str_cancel {a b c : Str} (h : a ++ b = a ++ c) : b = c := by
  have e := congrArg (fun s : Str => s.cps.toList) h
  have e1 : ∀ x y : Str, (x ++ y).cps.toList = x.cps.toList ++ y.cps.toList := fun x y => by
    show (x.cps ++ y.cps).toList = _
    simp
  simp only [e1] at e
  have e2 := List.append_cancel_left e
  obtain ⟨b⟩ := b
  obtain ⟨c⟩ := c
  exact congrArg Str.mk (Array.toList_inj.mp e2)
theorem candL_nodup (name : Str) {m : Nat} (hm : m ≤ 80) : (candL name m).Nodup := by
  unfold candL
  refine List.pairwise_map.mpr (List.Pairwise.imp_of_mem ?_ List.nodup_range)
  intro a b ha hb hne e
  rw [List.mem_range] at ha hb
  exact hne (num_inj a (by omega) b (by omega) (str_cancel e))
theorem cand_free (name : Str) {taken : List Str} (hl : taken.length < 70) : ∃ i, i ≤ taken.length ∧ cand name (i + 2) ∉ taken := by
  refine Classical.byContradiction fun hc => ?_
  have hall : ∀ k ∈ candL name (taken.length + 1), k ∈ taken := fun k hk => by
    obtain ⟨i, hi, rfl⟩ := List.mem_map.mp hk
    rw [List.mem_range] at hi
    exact Classical.byContradiction fun q => hc ⟨i, by omega, q⟩
  have := sub_lenS (candL_nodup name (m := taken.length + 1) (by omega)) hall
  simp only [candL, List.length_map, List.length_range] at this
  omega
theorem free_found {name : Str} {taken : List Str} {i : Nat} (h0 : name ∈ taken) (hi : i ≤ taken.length) (hb : ∀ j : Nat, j < i → cand name (j + 2) ∈ taken) (hf : cand name (i + 2) ∉ taken) : freeV name taken = cand name (i + 2) := by
  unfold freeV
  rw [List.find?_cons_of_neg (by simpa using h0)]
  have : (candL name (taken.length + 1)).find? (fun x => decide (x ∉ taken)) = some (cand name (i + 2)) := by
    rw [List.find?_eq_some_iff_append]
    refine ⟨by simpa using hf, (candL name (taken.length + 1)).take i, (candL name (taken.length + 1)).drop (i + 1), ?_, fun a ha => ?_⟩
    · have hlt : i < (candL name (taken.length + 1)).length := by simp [candL]; omega
      have e : (candL name (taken.length + 1))[i] = cand name (i + 2) := by simp [candL]
      rw [← e, ← List.drop_eq_getElem_cons hlt, List.take_append_drop]
    · obtain ⟨j, hj, e⟩ := List.mem_iff_getElem.mp ha
      rw [List.length_take] at hj
      rw [List.getElem_take] at e
      have : a = cand name (j + 2) := by rw [← e]; simp [candL]
      rw [this]
      simpa using hb j (by omega)
  rw [this]
  rfl
theorem free_self {name : Str} {taken : List Str} (h0 : name ∉ taken) : freeV name taken = name := by
  unfold freeV
  rw [List.find?_cons_of_pos (by simpa using h0)]
  rfl
theorem free_len (name : Str) {taken : List Str} (hl : taken.length < 70) : (freeV name taken).length ≤ name.length + 2 := by
  by_cases h0 : name ∈ taken
  · obtain ⟨i, hi, hf⟩ := cand_free name hl
    have hx : ∃ i, (i ≤ taken.length ∧ cand name (i + 2) ∉ taken) ∧ ∀ j, j < i → cand name (j + 2) ∈ taken := by
      induction i using Nat.strongRecOn with
      | _ i ih =>
        by_cases c : ∃ j, j < i ∧ cand name (j + 2) ∉ taken
        · obtain ⟨j, h1, h2⟩ := c
          exact ih j h1 (by omega) h2
        · exact ⟨i, ⟨hi, hf⟩, fun j hj => Classical.byContradiction fun q => c ⟨j, hj, q⟩⟩
    obtain ⟨i, ⟨h1, h2⟩, h3⟩ := hx
    rw [free_found h0 h1 h3 h2]
    have h4 := num_len i (by omega)
    have e : (cand name (i + 2)).length = name.length + (numS ((i + 2 : Nat) : Int)).length := by
      show (name.cps ++ _).size = _
      rw [Array.size_append]
      rfl
    omega
  · rw [free_self h0]
    omega
section
variable {K : PySem.W.Frag} {H : Hp} {ds : List (Option D)} {ta tb : TE}
theorem op_addS {a b : Str} (h : a.length + b.length ≤ 1000000) : Op rAddS H (.str a) (.str b) (.str (a ++ b)) := fun H1 e x y hx hy Q k => ⟨a, b, hx, hy, Nat.le_trans h (by decide), k _ H1 (Same.refl _) rfl⟩
/-- name + str(k) -/
theorem ev_cand {name : Str} {k : Nat} (hn : name.length ≤ 1000) (hk : 2 ≤ k) (hk2 : k < 82) (ha : EvD ta ds H (.str name)) (hb : EvD tb ds H (.int (k : Int))) : EvD (tOp rAddS ta (tCB rStrI (tCons tb tNil))) ds H (.str (cand name k)) := by
  have h1 := num_len (k - 2) (by omega)
  have e : k - 2 + 2 = k := by omega
  rw [e] at h1
  have hlog : ((k : Int)).natAbs.log2 < 1920 := by
    have : (k : Int).natAbs = k := rfl
    rw [this]
    exact Nat.lt_of_le_of_lt (Nat.log2_le_self k) (by omega)
  exact ev_op ha (ev_cb (ea_cons hb ea_nil) (cl_str hlog)) (op_addS (show name.length + (numS (k : Int)).length ≤ _ by omega))
end
def sp_free_name (K : PySem.W.Frag) : Sp := rsp fun H as d => ∃ name taken, as = [.str name, .lst (taken.map D.str)] ∧ name.length ≤ 1000 ∧ taken.length < 70 ∧ d = .str (freeV name taken)
theorem ok_free_name {P : Program} {w : World} {K : PySem.W.Frag} {mg : Str → Option Value} {base : Heap} (S : Says K mg) : Fk P w K mg base 1 (He.fAd K ("free_name", none)) ["name", "taken"] (sp_free_name K) := by
  refine mk_g S.df_free_name sc_free_name ?_ (by decide) fun cdv A outer s H H0 Q E as d bd hp k => ?_
  · rintro H as d ⟨name, taken, rfl, _⟩
    rfl
  · obtain ⟨name, taken, rfl, hn, hl, rfl⟩ := hp
    obtain ⟨hr, tk, px, hu, hu65⟩ := bd
    refine ⟨_, (pss_cons (ps_if (pt_cmpR op_notIn_seq (pv 0) (pv 1) rfl) (pss_one (ps_ret (pv 0))) pss_nil)
      (pss_cons (ps_set (i := 2) sc_free_name.nd rfl (Or.inl rfl) (pe_int))
      (pss_cons (ps_while (passes_of rfl) (pt_cmpR op_in_seq (pe_op op_add_str (pv 0) (pe_callTy call_str_int (by rfl) S.free_str (by decide +kernel) (pa_cons (pv 2) pa_nil))) (pv 1) rfl) (pss_one (ps_set (i := 2) sc_free_name.nd rfl (Or.inl rfl) (pe_op op_add (pv 2) (pe_int)))))
      (pss_one (ps_ret (pe_op op_add_str (pv 0) (pe_callTy call_str_int (by rfl) S.free_str (by decide +kernel) (pa_cons (pv 2) pa_nil)))))))), ?_⟩
    refine go_when (b := !decide (name ∈ taken)) (eb_is (eb_test (ev_op (ev_var rfl) (ev_var rfl) (op_inL rfl (strs_flat _)))) (by rw [strs_val]; show (!inV (.str name) _) = _; rw [inV_strs])) (fun c => ?_) (fun c => ?_)
    · refine go_ret (ev_is (ev_var rfl) ?_) fun v H1 e hv => k v H1 e hv
      rw [free_self (by simpa using c)]
    · have h0 : name ∈ taken := by simpa using c
      obtain ⟨m, hm, hf⟩ := cand_free name hl
      refine go_asg (x := .int ((0 + 2 : Nat) : Int)) ev_int ?_
      refine go_while (ι := Nat) (fun i H' => Ex H H' ∧ i ≤ m ∧ ∀ j : Nat, j < i → cand name (j + 2) ∈ taken) (fun i => [some (.str name), some (.lst (taken.map D.str)), some (.int ((i + 2 : Nat) : Int))]) (fun i => m - i) 0 rfl (fun H' e => ⟨e, Nat.zero_le _, fun j hj => by omega⟩) fun i H1 ps => ?_
      obtain ⟨ex, him, hb⟩ := ps
      refine ⟨decide (cand name (i + 2) ∈ taken), eb_is (eb_test (ev_op (ev_cand hn (by omega) (by omega) (ev_var rfl) (ev_var rfl)) (ev_var rfl) (op_inL rfl (strs_flat _)))) (by rw [strs_val]; exact inV_strs _ _), fun c2 N hN => ?_, fun c2 => ?_⟩
      · have c2' := of_decide_eq_true c2
        have hne : i ≠ m := fun q => hf (q ▸ c2')
        refine go_last (go_asg (x := .int ((i + 1 + 2 : Nat) : Int)) (ev_is (ev_op (ev_var rfl) ev_int op_addI) (by congr 1)) (go_next fun σ H2 e2 n2 => hN (i + 1) σ H2 ⟨ex.trans e2, by omega, fun j hj => ?_⟩ (by omega) n2))
        by_cases q : j = i
        · rw [q]; exact c2'
        · exact hb j (by omega)
      · have c2' := of_decide_eq_false c2
        refine go_ret (ev_is (ev_cand hn (by omega) (by omega) (ev_var rfl) (ev_var rfl)) ?_) fun v H2 e hv => k v H2 (ex.trans e) hv
        rw [free_found h0 (by omega) hb c2']
theorem e_freeName {K : PySem.W.Frag} {H : Hp} {ds : List (Option D)} {t1 t2 : TE} {X : XK} {name : Str} {taken : List Str} (hn : name.length ≤ 1000) (hl : taken.length < 70) (h1 : EvD t1 ds H (.str name)) (h2 : EvD t2 ds H (.lst (taken.map D.str))) :
    EvD (tCall (sp_free_name K) [] X (tCons t1 (tCons t2 tNil))) ds H (.str (freeV name taken)) := ev_call (ea_cons h1 (ea_cons h2 ea_nil)) (rsp_pr fun H' e => ⟨name, taken, rfl, hn, hl, rfl⟩)
end Cs
set_option Elab.async false
set_option linter.all false
set_option maxRecDepth 100000
set_option maxHeartbeats 4000000
namespace Cs
open PySem PySem.Spec PyProof.Rows L2
/-! ### lists that a comprehension makes, new -/
section
variable {K : PySem.W.Frag} {ds : List (Option D)} {H : Hp} {te tl : TE} {tt : TT} {j : Nat}
theorem el_lcL {xs : List D} (f : D → Option D) (hl : EvD tl ds H (.lst xs)) (hz : xs.length < 1000000) (ht : ∀ x ∈ xs, EvB tt (ds.set j (some x)) H (f x).isSome)
    (he : ∀ x ∈ xs, ∀ y, f x = some y → EvD te (ds.set j (some x)) H y ∧ y.pure = true) : EvL (tLc (iList K tl) (gName j) tt te [j]) ds H (xs.filterMap f) := fun σ H0 e n Q q =>
  hl σ H0 e n _ fun v H1 e1 hv => by
    obtain ⟨a, vs, rfl, ha, hvs⟩ := hv
    refine ⟨a, rfl, ⟨vs, SqL.of ha⟩, fun p hp => lc_list (xs := vs) (fun i H' => Acc H1 p ((xs.take i).filterMap f) H') (Acc.zero hp) (fun i H' _ A => SqL.of (A.2.1 _ _ ha)) (fun i x H' hi A => ?_) fun H' A => ?_⟩
    · obtain ⟨d, hd, hx⟩ := hvs.getV hi
      refine ⟨by simp [wipe], ?_⟩
      rw [fm_take_succ hd]
      have hm : d ∈ xs := List.mem_of_getElem? hd
      refine lc_turn (ds2 := ds.set j (some d)) (H0 := H) (e.trans e1) A ?_ ?_ (ht d hm) (he d hm)
      · simp only [wipe, List.set_set]
        exact ((n.mono e1).mono A.2.1).set (hx.mono A.2.1) j
      · have := filterMap_len f (xs.take i)
        have := List.length_take_le' i xs
        omega
    · obtain ⟨hn, ex, acc, c, d, _⟩ := A
      rw [hvs.len, List.take_length] at d
      exact q p acc H' (e1.free hn) (e1.trans ex) c d
theorem el_is {xs ys : List D} (h : EvL te ds H xs) (e : xs = ys) : EvL te ds H ys := e ▸ h
/-- [x for x in pairs if c]: pairs -/
theorem el_lcF {ps : List (Int × Int)} (c : Int × Int → Bool) (hl : EvD tl ds H (.lst (ps.map pairD))) (hz : ps.length < 1000000) (ht : ∀ p ∈ ps, EvB tt (ds.set j (some (pairD p))) H (c p))
    (hj : j < ds.length) : EvL (tLc (iList K tl) (gName j) tt (tVar j) [j]) ds H ((ps.filter c).map pairD) := by
  have e : (ps.map pairD).filterMap (fun d => match d with | .tup [.int a, .int b] => if c (a, b) = true then some (pairD (a, b)) else none | _ => none) = (ps.filter c).map pairD := by
    rw [List.filterMap_map, ← filterMap_if]
    rfl
  rw [← e]
  refine el_lcL _ hl (by rw [List.length_map]; exact hz) (fun k hk => ?_) (fun k hk y hy => ?_)
  · obtain ⟨p, hp, rfl⟩ := List.mem_map.mp hk
    refine eb_is (ht p hp) ?_
    show c p = (if c (p.1, p.2) = true then some (pairD (p.1, p.2)) else none).isSome
    by_cases q : c p = true <;> simp [q]
  · obtain ⟨p, hp, rfl⟩ := List.mem_map.mp hk
    have hy' : (if c p = true then some (pairD p) else none) = some y := hy
    split at hy'
    · cases hy'
      exact ⟨ev_var (by rw [List.getElem?_set_self hj]), pairD_pure p⟩
    · cases hy'
end
/-! ### stores at a house that leave all lists -/
def KeepL (H H' : Hp) : Prop := ∀ a vs, H a = some (.lst vs) → H' a = some (.lst vs)
theorem KeepL.ex {H H' : Hp} (e : Ex H H') : KeepL H H' := fun a vs q => e a _ q
theorem KeepL.trans {H H1 H2 : Hp} (a : KeepL H H1) (b : KeepL H1 H2) : KeepL H H2 := fun c vs q => b c vs (a c vs q)
section
variable {K : PySem.W.Frag} {ds : List (Option D)} {H H' : Hp} {ta tb te tv : TE} {tr : TA} {tz : TS} {E : Ends} {X : XK} {p : Addr} {F : Foot} {h h' : HS} {m : Str} {as : List D} {o : Out} {Pre : HS → List D → Out → Prop}
theorem EnvOk.upd_ins' {σ : L2.St} {a : Addr} {C dx : Addr} {fs : List (Str × V)} {o : HO} (ha : H a = some (.ins C dx fs)) (h : EnvOk H σ ds) : EnvOk (upd H a o) σ ds :=
  h.imp (fun b vs q => by rw [upd_ne (ne_of q ha (by intro z; cases z))]; exact q) (fun b vs q => by rw [upd_ne (ne_of q ha (by intro z; cases z))]; exact q)
theorem go_asgW {i : Nat} (x : HAt (He.ga K "House") H p F h) (hm : (flds F h).lookup m = none) (ho : EvD ta ds H (.obj p)) (ha : EvA tr ds H as) (pa : D.pureL as = true) (pe : pureE ds = true) (hp : Pre h as o)
    (k1 : ∀ d h', o = .ok d h' → ∀ H2 F', HAt (He.ga K "House") H2 p F' h' → Fr (fp p F) H H2 → Fresh p H F F' → Go tz (ds.set i (some d)) H2 E) (k2 : ∀ x, o = .err x → ∀ H2, Ex H H2 → X (.ref (He.ga K x)) none H2) :
    Go (tSeq (tAsg (tMeth (He.ga K "House") m (wsp K Pre) [] X ta tr) (gName i)) tz) ds H E := fun σ H1 e n =>
  w_meth x hm ho ha pa hp e n (fun d h' hd v H2 F' y r f _ hv => k1 d h' hd H2 F' y (Fr.ex_trans e r) (Fresh.ex e f) _ H2 (Same.refl _) (((x.mono e).keepE r pe n).set hv i)) fun z hz H2 e2 => k2 z hz H2 (e.trans e2)
/-- self.rows.pop(n) -/
theorem go_rowpop {n : Int} (x : HAt (He.ga K "House") H p F h) (hn : n ∈ h.keys) (hd : EvD ta ds H (.obj F.rows)) (hk : EvD tb ds H (.int n))
    (k : ∀ H2, HAt (He.ga K "House") H2 p F { h with rows := drop h.rows n } → Fr (fp p F) H H2 → KeepL H H2 → Go tz ds H2 E) : Go (tSeq (tDrop (tDPop1 ta tb)) tz) ds H E := fun σ H1 e nn =>
  hd σ H1 e nn _ fun y H3 e3 hy => by
    have x3 := x.mono (e.trans e3)
    refine ⟨F.rows, hy, x3.rw.at.isD, hk σ H3 (e.trans e3) (nn.mono e3) _ fun z H4 e4 hz => ?_⟩
    have ee := (e.trans e3).trans e4
    have x4 := x.mono ee
    obtain ⟨kvs, hkv, hi⟩ := x4.rw
    obtain ⟨r, hr⟩ := keys_row hn
    obtain ⟨v, hv, _⟩ := hi.getS (k := Sum.inl n) (d := r.d) (by rw [kds_get, hr]; rfl)
    have fr : Fr (fp p F) H4 (upd H4 F.rows (.dK (dropK kvs (Sum.inl n)))) := upd_fr (by simp [fp])
    refine ⟨kvs, Sum.inl n, v, hkv, hz, hv, ?_⟩
    refine k _ (x4.st_rows hkv ?_) (Fr.ex_trans ee fr) (fun a vs q => by rw [upd_ne (ne_of (ee _ _ q) hkv (by intro z; cases z))]; exact ee _ _ q) σ _ (Same.refl _) (((nn.mono e3).mono e4).upd_dK hkv)
    rw [← kds_drop]
    exact hi.drop
/-- self.shelved.pop(n) -/
theorem go_shpop {n : Int} (x : HAt (He.ga K "House") H p F h) (hn : n ∈ h.shelved.map (·.1)) (hd : EvD ta ds H (.obj F.shelved)) (hk : EvD tb ds H (.int n))
    (k : ∀ H2, HAt (He.ga K "House") H2 p F { h with shelved := drop h.shelved n } → Fr (fp p F) H H2 → KeepL H H2 → Go tz ds H2 E) : Go (tSeq (tDrop (tDPop1 ta tb)) tz) ds H E := fun σ H1 e nn =>
  hd σ H1 e nn _ fun y H3 e3 hy => by
    have x3 := x.mono (e.trans e3)
    refine ⟨F.shelved, hy, x3.sh.at.isD, hk σ H3 (e.trans e3) (nn.mono e3) _ fun z H4 e4 hz => ?_⟩
    have ee := (e.trans e3).trans e4
    have x4 := x.mono ee
    obtain ⟨kvs, hkv, hi⟩ := x4.sh
    obtain ⟨r, hr⟩ := Option.isSome_iff_exists.mp (get_mem.mpr hn)
    obtain ⟨v, hv, _⟩ := hi.getS (k := Sum.inl n) (d := .int r) (by rw [kds_get, hr]; rfl)
    have fr : Fr (fp p F) H4 (upd H4 F.shelved (.dK (dropK kvs (Sum.inl n)))) := upd_fr (by simp [fp])
    refine ⟨kvs, Sum.inl n, v, hkv, hz, hv, ?_⟩
    refine k _ (x4.st_shelved hkv ?_) (Fr.ex_trans ee fr) (fun a vs q => by rw [upd_ne (ne_of (ee _ _ q) hkv (by intro z; cases z))]; exact ee _ _ q) σ _ (Same.refl _) (((nn.mono e3).mono e4).upd_dK hkv)
    rw [← kds_drop]
    exact hi.drop
/-- self.shelved[n] = m -/
theorem go_shput {n m : Int} (x : HAt (He.ga K "House") H p F h) (hl : h.shelved.length < 100000) (hv : EvD tv ds H (.int m)) (hd : EvD ta ds H (.obj F.shelved)) (hk : EvD tb ds H (.int n))
    (k : ∀ H2, HAt (He.ga K "House") H2 p F { h with shelved := put h.shelved n m } → Fr (fp p F) H H2 → KeepL H H2 → Go tz ds H2 E) : Go (tSeq (sDPut ta tb tv) tz) ds H E := fun σ H1 e nn =>
  hv σ H1 e nn _ fun v H2 e2 hv' => hd σ H2 (e.trans e2) (nn.mono e2) _ fun y H3 e3 hy => hk σ H3 ((e.trans e2).trans e3) ((nn.mono e2).mono e3) _ fun z H4 e4 hz => by
    have ee := ((e.trans e2).trans e3).trans e4
    have x4 := x.mono ee
    obtain ⟨kvs, hkv, hi⟩ := x4.sh
    have fr : Fr (fp p F) H4 (upd H4 F.shelved (.dK (putK kvs (Sum.inl n) v))) := upd_fr (by simp [fp])
    refine ⟨F.shelved, _, hy, .inl ⟨kvs, Sum.inl n, hkv, hz, ?_, rfl⟩, ?_⟩
    · rw [hi.len, kds_len]
      exact Nat.lt_trans hl (by decide)
    · refine k _ (x4.st_shelved hkv ?_) (Fr.ex_trans ee fr) (fun a vs q => by rw [upd_ne (ne_of (ee _ _ q) hkv (by intro z; cases z))]; exact ee _ _ q) σ _ (Same.refl _) ((((nn.mono e2).mono e3).mono e4).upd_dK hkv)
      rw [← kds_put]
      exact hi.put (hv'.mono (e3.trans e4))
/-- self.casts = [..] -/
theorem go_setCasts {ps : List (Int × Int)} (hc : Cls K (He.ga K "House")) (hn : NoAttr K (He.ga K "House") "casts") (x : HAt (He.ga K "House") H p F h) (hv : EvL tv ds H (ps.map pairD)) (ho : EvD ta ds H (.obj p))
    (k : ∀ H2 F', HAt (He.ga K "House") H2 p F' { h with casts := ps } → Fr (fp p F) H H2 → Fresh p H F F' → KeepL H H2 → Go tz ds H2 E) : Go (tSeq (sFld K ta tv "casts") tz) ds H E := fun σ H1 e nn =>
  hv σ H1 e nn _ fun l vs H2 hl e2 hv' il => by
    refine ho σ H2 (e.trans e2) (nn.mono e2) _ fun y H3 e3 hy => ?_
    have ee := (e.trans e2).trans e3
    have x3 := x.mono ee
    refine ⟨p, _, F.dx, flds F h, hy, x3.ob, hc, hn, by show 8 < 1000; decide, ?_⟩
    rw [putF_casts]
    have fr : Fr (fp p F) H3 (upd H3 p (.ins (He.ga K "House") F.dx (flds { F with casts := l } h))) := upd_fr (by simp [fp])
    have h0 : H l = none := e.free hl
    refine k _ { F with casts := l } ⟨upd_same, x3.rw.upd_ins x3.ob, x3.sh.upd_ins x3.ob, Is.upd_ins x3.ob ⟨l, vs, rfl, e3 _ _ hv', il.mono e3⟩, x3.pa.upd_ins x3.ob, x.n1, fun q => ?_⟩ (Fr.ex_trans ee fr) (fun b hb => ?_) (fun a ws q => by rw [upd_ne (ne_of (ee _ _ q) x3.ob (by intro z; cases z))]; exact ee _ _ q) σ _ (Same.refl _) (((nn.mono e2).mono e3).upd_ins' x3.ob)
    · exact x.fp_some (b := F.pairs) (by simp [fp]) (by rw [← (show l = F.pairs from q)]; exact h0)
    · simp only [fp, List.mem_cons, List.not_mem_nil, or_false] at hb
      rcases hb with rfl | rfl | rfl | rfl | rfl
      · exact .inl (by simp [fp])
      · exact .inl (by simp [fp])
      · exact .inl (by simp [fp])
      · exact .inr h0
      · exact .inl (by simp [fp])
/-- self.pairs = [..] -/
theorem go_setPairs {ps : List (Int × Int)} (hc : Cls K (He.ga K "House")) (hn : NoAttr K (He.ga K "House") "pairs") (x : HAt (He.ga K "House") H p F h) (hv : EvL tv ds H (ps.map pairD)) (ho : EvD ta ds H (.obj p))
    (k : ∀ H2 F', HAt (He.ga K "House") H2 p F' { h with pairs := ps } → Fr (fp p F) H H2 → Fresh p H F F' → KeepL H H2 → Go tz ds H2 E) : Go (tSeq (sFld K ta tv "pairs") tz) ds H E := fun σ H1 e nn =>
  hv σ H1 e nn _ fun l vs H2 hl e2 hv' il => by
    refine ho σ H2 (e.trans e2) (nn.mono e2) _ fun y H3 e3 hy => ?_
    have ee := (e.trans e2).trans e3
    have x3 := x.mono ee
    refine ⟨p, _, F.dx, flds F h, hy, x3.ob, hc, hn, by show 8 < 1000; decide, ?_⟩
    rw [putF_pairs]
    have fr : Fr (fp p F) H3 (upd H3 p (.ins (He.ga K "House") F.dx (flds { F with pairs := l } h))) := upd_fr (by simp [fp])
    have h0 : H l = none := e.free hl
    refine k _ { F with pairs := l } ⟨upd_same, x3.rw.upd_ins x3.ob, x3.sh.upd_ins x3.ob, x3.ca.upd_ins x3.ob, Is.upd_ins x3.ob ⟨l, vs, rfl, e3 _ _ hv', il.mono e3⟩, x.n1, fun q => ?_⟩ (Fr.ex_trans ee fr) (fun b hb => ?_) (fun a ws q => by rw [upd_ne (ne_of (ee _ _ q) x3.ob (by intro z; cases z))]; exact ee _ _ q) σ _ (Same.refl _) (((nn.mono e2).mono e3).upd_ins' x3.ob)
    · exact x.fp_some (b := F.casts) (by simp [fp]) (by rw [(show F.casts = l from q)]; exact h0)
    · simp only [fp, List.mem_cons, List.not_mem_nil, or_false] at hb
      rcases hb with rfl | rfl | rfl | rfl | rfl
      · exact .inl (by simp [fp])
      · exact .inl (by simp [fp])
      · exact .inl (by simp [fp])
      · exact .inl (by simp [fp])
      · exact .inr h0
/-- a list of the house's is put anew in its place -/
theorem DOn.upd_lst' {a b : Addr} {us : List V} {o : HO} {kd : List (Key × D)} (ha : H a = some (.lst us)) (hp : ∀ q ∈ kd, q.2.pure = true) (h : DOn H b kd) : DOn (upd H a o) b kd := by
  obtain ⟨kvs, e, w⟩ := h
  refine ⟨kvs, by rw [upd_ne (ne_of e ha (by intro z; cases z))]; exact e, ?_⟩
  clear e
  induction kd generalizing kvs with
  | nil => exact w
  | cons q r ih =>
    obtain ⟨v, t, rfl, h1, h2⟩ := w
    exact ⟨v, t, rfl, h1.upd_lst ha (hp q (by simp)), ih (fun z hz => hp z (by simp [hz])) t h2⟩
theorem kds_pure {α : Type} {f : α → D} (hf : ∀ a, (f a).pure = true) (l : List (Int × α)) : ∀ q ∈ kds f l, q.2.pure = true := fun q hq => by
  obtain ⟨y, _, rfl⟩ := List.mem_map.mp hq
  exact hf _
theorem pairs_pureL (ps : List (Int × Int)) : D.pureL (ps.map pairD) = true := by
  induction ps with
  | nil => rfl
  | cons p r ih => exact (by rw [List.map_cons]; show (_ && _) = true; rw [ih]; rfl)
theorem HAt.st_casts {C : Addr} (x : HAt C H p F h) {ps : List (Int × Int)} {us vs : List V} (hu : H F.casts = some (.lst us)) (hv : IsL H (ps.map pairD) vs) : HAt C (upd H F.casts (.lst vs)) p F { h with casts := ps } := by
  obtain ⟨n1, n2, n3, n4⟩ := x.ins_ne
  refine ⟨by rw [upd_ne n3]; exact x.ob, x.rw.upd_lst' hu (kds_pure Row.pure _), x.sh.upd_lst' hu (kds_pure (fun _ => rfl) _), ⟨_, vs, rfl, upd_same, hv.upd_lst hu (pairs_pureL ps)⟩, ?_, x.n1, x.n2⟩
  obtain ⟨ws, e, il⟩ := x.pairs_
  exact ⟨_, ws, rfl, by rw [upd_ne x.n2.symm]; exact e, il.upd_lst hu (pairs_pureL _)⟩
theorem HAt.st_pairs {C : Addr} (x : HAt C H p F h) {ps : List (Int × Int)} {us vs : List V} (hu : H F.pairs = some (.lst us)) (hv : IsL H (ps.map pairD) vs) : HAt C (upd H F.pairs (.lst vs)) p F { h with pairs := ps } := by
  obtain ⟨n1, n2, n3, n4⟩ := x.ins_ne
  refine ⟨by rw [upd_ne n4]; exact x.ob, x.rw.upd_lst' hu (kds_pure Row.pure _), x.sh.upd_lst' hu (kds_pure (fun _ => rfl) _), ?_, ⟨_, vs, rfl, upd_same, hv.upd_lst hu (pairs_pureL ps)⟩, x.n1, x.n2⟩
  obtain ⟨ws, e, il⟩ := x.casts_
  exact ⟨_, ws, rfl, by rw [upd_ne x.n2]; exact e, il.upd_lst hu (pairs_pureL _)⟩
/-- self.casts.append(q) -/
theorem go_appCasts {q : Int × Int} (x : HAt (He.ga K "House") H p F h) (hl : h.casts.length < 100000) (ho : EvD ta ds H (.obj F.casts)) (he : EvD te ds H (pairD q)) (pe : pureE ds = true)
    (k : ∀ H2, HAt (He.ga K "House") H2 p F { h with casts := h.casts ++ [q] } → Fr (fp p F) H H2 → Go tz ds H2 E) : Go (tSeq (tDrop (tBM K "list" rAppend ta (tCons te tNil))) tz) ds H E := fun σ H1 e n =>
  ho σ H1 e n _ fun y H2 e2 hy => by
    cases (show _ = _ from hy)
    obtain ⟨us, hus, ils⟩ := (x.mono (e.trans e2)).casts_
    refine ⟨.inl ⟨rfl, us, SqL.of hus⟩, he σ H2 (e.trans e2) (n.mono e2) _ fun u H3 e3 hu => ?_⟩
    have ee := (e.trans e2).trans e3
    have x3 := x.mono ee
    have fr : Fr (fp p F) H3 (upd H3 F.casts (.lst (us ++ [u]))) := upd_fr (by simp [fp])
    refine ⟨F.casts, us, u, rfl, rfl, e3 _ _ hus, Nat.lt_trans (by rw [ils.len, List.length_map]; exact hl) (by decide), ?_⟩
    refine k _ (x3.st_casts (e3 _ _ hus) ?_) (Fr.ex_trans ee fr) σ _ (Same.refl _) (x3.keepE fr pe ((n.mono e2).mono e3))
    rw [List.map_append]
    exact (ils.mono e3).snoc hu
theorem go_appPairs {q : Int × Int} (x : HAt (He.ga K "House") H p F h) (hl : h.pairs.length < 100000) (ho : EvD ta ds H (.obj F.pairs)) (he : EvD te ds H (pairD q)) (pe : pureE ds = true)
    (k : ∀ H2, HAt (He.ga K "House") H2 p F { h with pairs := h.pairs ++ [q] } → Fr (fp p F) H H2 → Go tz ds H2 E) : Go (tSeq (tDrop (tBM K "list" rAppend ta (tCons te tNil))) tz) ds H E := fun σ H1 e n =>
  ho σ H1 e n _ fun y H2 e2 hy => by
    cases (show _ = _ from hy)
    obtain ⟨us, hus, ils⟩ := (x.mono (e.trans e2)).pairs_
    refine ⟨.inl ⟨rfl, us, SqL.of hus⟩, he σ H2 (e.trans e2) (n.mono e2) _ fun u H3 e3 hu => ?_⟩
    have ee := (e.trans e2).trans e3
    have x3 := x.mono ee
    have fr : Fr (fp p F) H3 (upd H3 F.pairs (.lst (us ++ [u]))) := upd_fr (by simp [fp])
    refine ⟨F.pairs, us, u, rfl, rfl, e3 _ _ hus, Nat.lt_trans (by rw [ils.len, List.length_map]; exact hl) (by decide), ?_⟩
    refine k _ (x3.st_pairs (e3 _ _ hus) ?_) (Fr.ex_trans ee fr) σ _ (Same.refl _) (x3.keepE fr pe ((n.mono e2).mono e3))
    rw [List.map_append]
    exact (ils.mono e3).snoc hu
/-- self.pairs.remove(q) -/
theorem go_remPairs {q : Int × Int} (x : HAt (He.ga K "House") H p F h) (hq : q ∈ h.pairs) (ho : EvD ta ds H (.obj F.pairs)) (he : EvD te ds H (pairD q)) (pe : pureE ds = true)
    (k : ∀ H2, HAt (He.ga K "House") H2 p F { h with pairs := h.pairs.erase q } → Fr (fp p F) H H2 → Go tz ds H2 E) : Go (tSeq (tDrop (tBM K "list" (rRemD K) ta (tCons te tNil))) tz) ds H E := fun σ H1 e n =>
  ho σ H1 e n _ fun y H2 e2 hy => by
    cases (show _ = _ from hy)
    obtain ⟨us, hus, ils⟩ := (x.mono (e.trans e2)).pairs_
    refine ⟨.inl ⟨rfl, us, SqL.of hus⟩, he σ H2 (e.trans e2) (n.mono e2) _ fun u H3 e3 hu => ?_⟩
    have ee := (e.trans e2).trans e3
    have x3 := x.mono ee
    obtain ⟨j, hj, hje⟩ := place_pairs hq
    have fr : Fr (fp p F) H3 (upd H3 F.pairs (.lst (us.eraseIdx j))) := upd_fr (by simp [fp])
    refine ⟨F.pairs, u, us, pyP q, h.pairs.map pyP, j, rfl, rfl, e3 _ _ hus, dp_pairs (ils.mono e3), dp_pair hu, pyP_plainA _, pyP_plain q, by rw [pyP_depth]; decide, hj, ?_⟩
    refine k _ (x3.st_pairs (e3 _ _ hus) ?_) (Fr.ex_trans ee fr) σ _ (Same.refl _) (x3.keepE fr pe ((n.mono e2).mono e3))
    rw [← hje]
    exact isL_erase j (ils.mono e3)
end
end Cs
set_option Elab.async false
set_option linter.all false
set_option maxRecDepth 100000
set_option maxHeartbeats 4000000
namespace Cs
open PySem PySem.Spec PyProof.Rows L2
def OkH (h : HS) : Prop := ∃ b, HInv h b ∧ b < 64
theorem OkH.wf {h : HS} (o : OkH h) : WF h := let ⟨_, i, hb⟩ := o; i.wf hb
/-! ### tie, untie -/
def HS.tieO (h : HS) (a b : Int) : Out := if h.there a = true then if h.there b = true then if a = b then .err "Same" else if (a, b) ∈ h.pairs then .ok .non h else .ok .non { h with pairs := h.pairs ++ [(a, b)] } else .err "NoThing" else .err "NoThing"
def HS.untieO (h : HS) (a b : Int) : Out := if h.there a = true then if h.there b = true then if (a, b) ∈ h.pairs then .ok .non { h with pairs := h.pairs.erase (a, b) } else .err "NoTie" else .err "NoThing" else .err "NoThing"
def sp_House_tie (K : PySem.W.Frag) : Sp := wsp K fun h as o => ∃ a b, as = [.int a, .int b] ∧ OkH h ∧ o = h.tieO a b
def sp_House_untie (K : PySem.W.Frag) : Sp := wsp K fun h as o => ∃ a b, as = [.int a, .int b] ∧ OkH h ∧ o = h.untieO a b
theorem ok_House_tie {P : Program} {w : World} {K : PySem.W.Frag} {mg : Str → Option Value} {base : Heap} (S : Says K mg) : Fk P w K mg base 3 (He.fAd K ("House", some "tie")) ["self", "one", "other"] (sp_House_tie K) := by
  have G_House_must := ok_House_must (P := P) (w := w) (base := base) S
  refine mk_w S.df_House_tie sc_House_tie ?_ (by decide) fun cdv A outer s H H0 Q E p F h as o bd pa x hp k1 k2 => ?_
  · rintro h as o ⟨a, b, rfl, _⟩
    rfl
  · obtain ⟨a, b, rfl, ok, rfl⟩ := hp
    obtain ⟨hr, tk, px, hu, hu65⟩ := bd
    refine ⟨_, (pss_cons (ps_expr (pe_mt (pv 0) S.cls_House S.meth_must G_House_must (hr.mono (by decide)) px (pa_cons (pv 1) pa_nil)))
      (pss_cons (ps_expr (pe_mt (pv 0) S.cls_House S.meth_must G_House_must (hr.mono (by decide)) px (pa_cons (pv 2) pa_nil)))
      (pss_cons (ps_if (pt_cmpR op_eq (pv 1) (pv 2) (nomark _)) (pss_one (ps_raise rfl tk (pmk_own PySem.F.excBase_ValueError S.exc_Same.1 S.glo_Same S.exc_Same.2.1 (raises_own S.exc_Same.2.2.1 S.exc_Same.2.2.2) (by rfl)))) pss_nil)
      (pss_one (ps_if (pt_cmpR (op_notInD hu65) (pe_tup (pa_cons (pv 1) (pa_cons (pv 2) pa_nil))) (pe_fld (pv 0) rfl) rfl) (pss_one (ps_expr (pe_bm PySem.F.plainAttrs_list PySem.F.slot_list_append PySem.F.type_list_append mt_append (pe_fld (pv 0) rfl) (pa_cons (pe_tup (pa_cons (pv 1) (pa_cons (pv 2) pa_nil))) pa_nil)))) pss_nil))))), ?_⟩
    refine go_doX (e_must x.rd (ev_var rfl) (ev_var rfl)) (fun d hd => ?_) (fun y hy H2 e2 => ?_)
    · have c1 := mustR_ok hd
      refine go_doX (e_must x.rd (ev_var rfl) (ev_var rfl)) (fun d hd => ?_) (fun y hy H2 e2 => ?_)
      · have c2 := mustR_ok hd
        refine go_when (b := decide (a = b)) (eb_is (eb_test (ev_op (ev_var rfl) (ev_var rfl) (op_eqF rfl rfl rfl))) (dec_int_val a b)) (fun c => ?_) (fun c => ?_)
        · exact go_raise (x := "Same") fun H1 e => k2 _ (by unfold HS.tieO; rw [if_pos c1, if_pos c2, if_pos (of_decide_eq_true c)]) H1 e
        · have c' := of_decide_eq_false c
          refine go_if (b := !decide ((a, b) ∈ h.pairs)) (eb_test (ev_op (a := pairD (a, b)) (ev_tup (ea_cons (ev_var rfl) (ea_cons (ev_var rfl) ea_nil)) (by simp)) (e_pairs S x.rd (ev_var rfl)) op_notInP)) (fun q => ?_) (fun q => ?_)
          · have q' : (a, b) ∉ h.pairs := by simpa using q
            refine go_last (go_appPairs (q := (a, b)) x ok.wf.pl (e_pairsO S x.rd (ev_var rfl)) (ev_tup (ea_cons (ev_var rfl) (ea_cons (ev_var rfl) ea_nil)) (by simp)) rfl fun H2 x2 r2 => ?_)
            exact go_next fun σ H3 e3 n3 => k1 .non _ (by unfold HS.tieO; rw [if_pos c1, if_pos c2, if_neg c', if_neg q']) _ H3 F (x2.mono e3) (r2.trans_ex e3) Fresh.refl rfl
          · have q' : (a, b) ∈ h.pairs := by simpa using q
            exact go_next fun σ H3 e3 n3 => k1 .non h (by unfold HS.tieO; rw [if_pos c1, if_pos c2, if_neg c', if_pos q']) _ H3 F (x.mono e3) (Fr.of_ex e3) Fresh.refl rfl
      · obtain ⟨c, rfl⟩ := mustR_err hy
        exact k2 _ (by unfold HS.tieO; rw [if_pos c1, if_neg (by rw [c]; exact Bool.false_ne_true)]) H2 e2
    · obtain ⟨c, rfl⟩ := mustR_err hy
      exact k2 _ (by unfold HS.tieO; rw [if_neg (by rw [c]; exact Bool.false_ne_true)]) H2 e2
theorem ok_House_untie {P : Program} {w : World} {K : PySem.W.Frag} {mg : Str → Option Value} {base : Heap} (S : Says K mg) : Fk P w K mg base 3 (He.fAd K ("House", some "untie")) ["self", "one", "other"] (sp_House_untie K) := by
  have G_House_must := ok_House_must (P := P) (w := w) (base := base) S
  refine mk_w S.df_House_untie sc_House_untie ?_ (by decide) fun cdv A outer s H H0 Q E p F h as o bd pa x hp k1 k2 => ?_
  · rintro h as o ⟨a, b, rfl, _⟩
    rfl
  · obtain ⟨a, b, rfl, ok, rfl⟩ := hp
    obtain ⟨hr, tk, px, hu, hu65⟩ := bd
    refine ⟨_, (pss_cons (ps_expr (pe_mt (pv 0) S.cls_House S.meth_must G_House_must (hr.mono (by decide)) px (pa_cons (pv 1) pa_nil)))
      (pss_cons (ps_expr (pe_mt (pv 0) S.cls_House S.meth_must G_House_must (hr.mono (by decide)) px (pa_cons (pv 2) pa_nil)))
      (pss_cons (ps_if (pt_cmpR (op_notInD hu65) (pe_tup (pa_cons (pv 1) (pa_cons (pv 2) pa_nil))) (pe_fld (pv 0) rfl) rfl) (pss_one (ps_raise rfl tk (pmk_own PySem.F.excBase_ValueError S.exc_NoTie.1 S.glo_NoTie S.exc_NoTie.2.1 (raises_own S.exc_NoTie.2.2.1 S.exc_NoTie.2.2.2) (by rfl)))) pss_nil)
      (pss_one (ps_expr (pe_bm PySem.F.plainAttrs_list PySem.F.slot_list_remove PySem.F.type_list_remove (mt_removeD hu65) (pe_fld (pv 0) rfl) (pa_cons (pe_tup (pa_cons (pv 1) (pa_cons (pv 2) pa_nil))) pa_nil))))))), ?_⟩
    refine go_doX (e_must x.rd (ev_var rfl) (ev_var rfl)) (fun d hd => ?_) (fun y hy H2 e2 => ?_)
    · have c1 := mustR_ok hd
      refine go_doX (e_must x.rd (ev_var rfl) (ev_var rfl)) (fun d hd => ?_) (fun y hy H2 e2 => ?_)
      · have c2 := mustR_ok hd
        refine go_when (b := !decide ((a, b) ∈ h.pairs)) (eb_test (ev_op (a := pairD (a, b)) (ev_tup (ea_cons (ev_var rfl) (ea_cons (ev_var rfl) ea_nil)) (by simp)) (e_pairs S x.rd (ev_var rfl)) op_notInP)) (fun q => ?_) (fun q => ?_)
        · have q' : (a, b) ∉ h.pairs := by simpa using q
          exact go_raise (x := "NoTie") fun H1 e => k2 _ (by unfold HS.untieO; rw [if_pos c1, if_pos c2, if_neg q']) H1 e
        · have q' : (a, b) ∈ h.pairs := by simpa using q
          refine go_last (go_remPairs (q := (a, b)) x q' (e_pairsO S x.rd (ev_var rfl)) (ev_tup (ea_cons (ev_var rfl) (ea_cons (ev_var rfl) ea_nil)) (by simp)) rfl fun H2 x2 r2 => ?_)
          exact go_next fun σ H3 e3 n3 => k1 .non _ (by unfold HS.untieO; rw [if_pos c1, if_pos c2, if_pos q']) _ H3 F (x2.mono e3) (r2.trans_ex e3) Fresh.refl rfl
      · obtain ⟨c, rfl⟩ := mustR_err hy
        exact k2 _ (by unfold HS.untieO; rw [if_pos c1, if_neg (by rw [c]; exact Bool.false_ne_true)]) H2 e2
    · obtain ⟨c, rfl⟩ := mustR_err hy
      exact k2 _ (by unfold HS.untieO; rw [if_neg (by rw [c]; exact Bool.false_ne_true)]) H2 e2
/-! ### cast -/
def putAll (l : List (Int × Int)) (ks : List Int) (m : Int) : List (Int × Int) := ks.foldl (fun s k => put s k m) l
theorem put_len {α : Type} (l : List (Int × α)) (n : Int) (a : α) : (put l n a).length ≤ l.length + 1 := by
  unfold put
  split <;> simp
theorem putAll_len (ks : List Int) (m : Int) : ∀ l : List (Int × Int), (putAll l ks m).length ≤ l.length + ks.length := by
  induction ks with
  | nil => intro l; exact Nat.le_refl _
  | cons k r ih =>
    intro l
    have h1 := ih (put l k m)
    have h2 := put_len l k m
    show (putAll (put l k m) r m).length ≤ _
    simp only [List.length_cons]
    omega
theorem putAll_snoc (l : List (Int × Int)) (ks : List Int) (k m : Int) : putAll l (ks ++ [k]) m = put (putAll l ks m) k m := by
  unfold putAll
  rw [List.foldl_append]
  rfl
theorem whole_len (h : HS) (n : Int) : (h.wholeL n).length ≤ h.rows.length := by
  unfold HS.wholeL
  refine Nat.le_trans (List.length_filter_le _ _) ?_
  rw [sortI_len]
  simp [HS.keys]
noncomputable def HS.castO (h : HS) (n : Int) : Out := if h.there n = true then .ok .non { h with shelved := putAll h.shelved (h.wholeL n) n, casts := h.casts ++ [(n, h.today)] } else .err "NoThing"
def sp_House_cast (K : PySem.W.Frag) : Sp := wsp K fun h as o => ∃ n, as = [.int n] ∧ OkH h ∧ o = h.castO n
theorem ok_House_cast {P : Program} {w : World} {K : PySem.W.Frag} {mg : Str → Option Value} {base : Heap} (S : Says K mg) : Fk P w K mg base 3 (He.fAd K ("House", some "cast")) ["self", "number"] (sp_House_cast K) := by
  have G_House_whole := ok_House_whole (P := P) (w := w) (base := base) S
  have G_House_must := ok_House_must (P := P) (w := w) (base := base) S
  refine mk_w S.df_House_cast sc_House_cast ?_ (by decide) fun cdv A outer s H H0 Q E p F h as o bd pa x hp k1 k2 => ?_
  · rintro h as o ⟨n, rfl, _⟩
    rfl
  · obtain ⟨n, rfl, ok, rfl⟩ := hp
    obtain ⟨hr, tk, px, hu, hu65⟩ := bd
    refine ⟨_, (pss_cons (ps_expr (pe_mt (pv 0) S.cls_House S.meth_must G_House_must (hr.mono (by decide)) px (pa_cons (pv 1) pa_nil)))
      (pss_cons (ps_for (passes_of rfl) rfl (pi_list (pe_mt (pv 0) S.cls_House S.meth_whole G_House_whole (hr.mono (by decide)) px (pa_cons (pv 1) pa_nil))) (pg_name (i := 2) sc_House_cast.nd rfl (Or.inl rfl)) (pss_one (ps_dput hu (pe_fld (pv 0) rfl) (pv 2) (pv 1) rfl)))
      (pss_one (ps_expr (pe_bm PySem.F.plainAttrs_list PySem.F.slot_list_append PySem.F.type_list_append mt_append (pe_fld (pv 0) rfl) (pa_cons (pe_tup (pa_cons (pv 1) (pa_cons (pe_fld (pv 0) rfl) pa_nil))) pa_nil)))))), ?_⟩
    have w := ok.wf
    have wl := whole_len h n
    have hrl := w.rl
    have hsl := w.sl
    refine go_doX (e_must x.rd (ev_var rfl) (ev_var rfl)) (fun d hd => ?_) (fun y hy H2 e2 => ?_)
    · have c1 := mustR_ok hd
      refine go_forK (ι := Unit) (ns := h.wholeL n) (e_whole x.rd c1 w.rl w.kn (ev_var rfl) (ev_var rfl)) (fun i _ H' => HAt (hC K) H' p F { h with shelved := putAll h.shelved ((h.wholeL n).take i) n } ∧ Fr (fp p F) H H') (fun _ => [some (.obj p), some (.int n), none]) () rfl (fun H' e => ⟨x.mono e, Fr.of_ex e⟩) (fun i m _ H1 hm pm M hM => ?_) (fun _ H1 pm => ?_)
      · obtain ⟨x1, r1⟩ := pm
        have hlen := putAll_len ((h.wholeL n).take i) n h.shelved
        have htl := List.length_take_le' i (h.wholeL n)
        refine go_last (go_shput (n := m) (m := n) x1 (by show (putAll _ _ _).length < _; omega) (ev_var rfl) (e_shelved S x1.rd (ev_var rfl)) (ev_var rfl) fun H2 x2 r2 kl => ?_)
        refine go_next fun σ H3 e3 n3 => hM () σ H3 ⟨?_, (Fr.trans r1 Fresh.refl r2).trans_ex e3⟩ (fun a vs q => e3 _ _ (kl a vs q)) (n3.forget 2)
        rw [List.take_succ, hm, Option.toList_some, putAll_snoc]
        exact x2.mono e3
      · obtain ⟨x1, r1⟩ := pm
        rw [List.take_length] at x1
        refine go_last (go_appCasts (q := (n, h.today)) x1 (by have := w.cl; show h.casts.length < _; omega) (e_castsO S x1.rd (ev_var rfl)) (ev_tup (ea_cons (ev_var rfl) (ea_cons (ev_is (e_today S x1.rd (ev_var rfl)) rfl) ea_nil)) (by simp)) rfl fun H2 x2 r2 => ?_)
        exact go_next fun σ H3 e3 n3 => k1 .non _ (by unfold HS.castO; rw [if_pos c1]) _ H3 F (x2.mono e3) ((Fr.trans r1 Fresh.refl r2).trans_ex e3) Fresh.refl rfl
    · obtain ⟨c, rfl⟩ := mustR_err hy
      exact k2 _ (by unfold HS.castO; rw [if_neg (by rw [c]; exact Bool.false_ne_true)]) H2 e2
/-! ### take_down, lose, gone -/
def without {α : Type} (l : List (Int × α)) (ks : List Int) : List (Int × α) := l.filter fun q => decide (q.1 ∉ ks)
theorem without_nil {α : Type} (l : List (Int × α)) : without l [] = l := by
  unfold without
  rw [List.filter_eq_self]
  intro a _
  simp
theorem without_snoc {α : Type} (l : List (Int × α)) (ks : List Int) (k : Int) : without l (ks ++ [k]) = drop (without l ks) k := by
  unfold without drop
  rw [List.filter_filter]
  refine List.filter_congr fun q _ => ?_
  by_cases c1 : q.1 = k <;> by_cases c2 : q.1 ∈ ks <;> simp [c1, c2]
theorem without_keys {α : Type} {l : List (Int × α)} {ks : List Int} {n : Int} : n ∈ (without l ks).map (·.1) ↔ n ∈ l.map (·.1) ∧ n ∉ ks := by
  unfold without
  simp only [List.mem_map, List.mem_filter, decide_eq_true_eq]
  constructor
  · rintro ⟨q, ⟨h1, h2⟩, rfl⟩
    exact ⟨⟨q, h1, rfl⟩, h2⟩
  · rintro ⟨⟨q, h1, rfl⟩, h2⟩
    exact ⟨q, ⟨h1, h2⟩, rfl⟩
theorem bundle_nodup {h : HS} (hs : (h.shelved.map (·.1)).Nodup) (n : Int) : (h.bundle n).Nodup := (sortI_nodup hs).filter _
theorem mem_bundle {h : HS} {n k : Int} : k ∈ h.bundle n ↔ get h.shelved k = some n := by
  unfold HS.bundle
  rw [List.mem_filter, mem_sortI]
  exact ⟨fun q => of_decide_eq_true q.2, fun q => ⟨get_key q, decide_eq_true q⟩⟩
theorem not_take {ns : List Int} {i : Nat} {n : Int} (hn : ns.Nodup) (h : ns[i]? = some n) : n ∉ ns.take i := fun m => by
  obtain ⟨j, hj, e⟩ := List.mem_iff_getElem.mp m
  rw [List.length_take] at hj
  rw [List.getElem_take] at e
  obtain ⟨hi, e2⟩ := List.getElem?_eq_some_iff.mp h
  exact List.pairwise_iff_getElem.mp hn j i (by omega) hi (by omega) (e.trans e2.symm)
def HS.takeH (h : HS) (n : Int) : HS := { h with shelved := without h.shelved (h.bundle n), casts := h.casts.filter fun q => decide (q.1 ≠ n) }
def HS.takeO (h : HS) (n : Int) : Out := if n ∈ h.casts.map (·.1) then .ok (.lst ((h.bundle n).map D.int)) (h.takeH n) else .err "NoCast"
def sp_House_take_down (K : PySem.W.Frag) : Sp := wsp K fun h as o => ∃ n, as = [.int n] ∧ OkH h ∧ o = h.takeO n
theorem bundleR_ok {h : HS} {n : Int} {d : D} (e : h.bundleR n = .ok d) : n ∈ h.casts.map (·.1) ∧ d = .lst ((h.bundle n).map D.int) := by
  unfold HS.bundleR at e
  split at e
  · cases e
    exact ⟨by assumption, rfl⟩
  · cases e
theorem bundleR_err {h : HS} {n : Int} {x : Str} (e : h.bundleR n = .err x) : n ∉ h.casts.map (·.1) ∧ x = "NoCast" := by
  unfold HS.bundleR at e
  split at e
  · cases e
  · cases e
    exact ⟨by assumption, rfl⟩
theorem ok_House_take_down {P : Program} {w : World} {K : PySem.W.Frag} {mg : Str → Option Value} {base : Heap} (S : Says K mg) : Fk P w K mg base 2 (He.fAd K ("House", some "take_down")) ["self", "number"] (sp_House_take_down K) := by
  have G_House_bundle := ok_House_bundle (P := P) (w := w) (base := base) S
  refine mk_w S.df_House_take_down sc_House_take_down ?_ (by decide) fun cdv A outer s H H0 Q E p F h as o bd pa x hp k1 k2 => ?_
  · rintro h as o ⟨n, rfl, _⟩
    rfl
  · obtain ⟨n, rfl, ok, rfl⟩ := hp
    obtain ⟨hr, tk, px, hu, hu65⟩ := bd
    refine ⟨_, (pss_cons (ps_set (i := 2) sc_House_take_down.nd rfl (Or.inl rfl) (pe_mt (pv 0) S.cls_House S.meth_bundle G_House_bundle (hr.mono (by decide)) px (pa_cons (pv 1) pa_nil)))
      (pss_cons (ps_for (passes_of rfl) rfl (pi_list (pv 2)) (pg_name (i := 3) sc_House_take_down.nd rfl (Or.inl rfl)) (pss_one (ps_expr (pe_dpop1 (pe_fld (pv 0) rfl) (pv 3) ⟨rfl, rfl, rfl, rfl⟩))))
      (pss_cons (ps_fld (pv 0) (pe_lc (own := [("row", 4)]) (g := (gName 4)) (tt := (tTest (tOp rNe (tOp (rIxT K) (tVar 4) (tC (.int 0))) (tVar 1)))) (te := (tVar 4)) rfl sc_House_take_down.nd (pi_list (pe_fld (pv 0) rfl)) (blkOk_by (N := ["self", "number", "some", "one", "row"]) (sc := defScope s_House_take_down) (by decide +kernel)) (fun _ _ _ _ _ => (pg_name (i := 4) sc_House_take_down.nd rfl (Or.inl rfl))) (fun _ _ _ _ _ => (pts_one (pt_cmpR op_ne (pe_ix ix_tup (pv 4) (pe_int) (fun _ _ => rfl)) (pv 1) (nomark _)))) (fun _ _ _ _ _ => (pv 4))) rfl)
      (pss_one (ps_ret (pv 2)))))), ?_⟩
    have w := ok.wf
    have hcl := w.cl
    refine go_asgX (ex_bundle x.rd w.sl (by omega) (ev_var rfl) (ev_var rfl)) (fun d hd => ?_) (fun y hy H2 e2 => ?_)
    · obtain ⟨hc, rfl⟩ := bundleR_ok hd
      refine go_forK (ι := Unit) (ns := h.bundle n) (ev_var rfl) (fun i _ H' => HAt (hC K) H' p F { h with shelved := without h.shelved ((h.bundle n).take i) } ∧ Fr (fp p F) H H') (fun _ => [some (.obj p), some (.int n), some (.lst ((h.bundle n).map D.int)), none, none]) () rfl (fun H' e => ⟨by rw [List.take_zero, without_nil]; exact x.mono e, Fr.of_ex e⟩) (fun i m _ H1 hm pm M hM => ?_) (fun _ H1 pm => ?_)
      · obtain ⟨x1, r1⟩ := pm
        have hmk : m ∈ (without h.shelved ((h.bundle n).take i)).map (·.1) := without_keys.mpr ⟨get_key (mem_bundle.mp (List.mem_of_getElem? hm)), not_take (bundle_nodup w.sn n) hm⟩
        refine go_last (go_shpop (n := m) x1 hmk (e_shelved S x1.rd (ev_var rfl)) (ev_var rfl) fun H2 x2 r2 kl => ?_)
        refine go_next fun σ H3 e3 n3 => hM () σ H3 ⟨?_, (Fr.trans r1 Fresh.refl r2).trans_ex e3⟩ (fun a vs q => e3 _ _ (kl a vs q)) (n3.forget 3)
        rw [List.take_succ, hm, Option.toList_some, without_snoc]
        exact x2.mono e3
      · obtain ⟨x1, r1⟩ := pm
        rw [List.take_length] at x1
        refine go_setCasts (ps := h.casts.filter fun q => decide (q.1 ≠ n)) S.cls_House S.na_casts x1 (el_lcF _ (ev_is (e_casts S x1.rd (ev_var rfl)) rfl) (by show h.casts.length < _; omega) (fun q hq => ?_) (by simp)) (ev_var rfl) fun H2 F2 x2 r2 f2 kl => ?_
        · refine eb_is (eb_test (ev_op (op_fst (ev_var rfl)) (ev_var rfl) (op_neF rfl rfl rfl))) ?_
          rw [dec_int_val]
          by_cases c : q.1 = n <;> simp [c]
        · exact go_ret (ev_var rfl) fun v H3 e3 hv => k1 _ (h.takeH n) (by unfold HS.takeO; rw [if_pos hc]) v H3 F2 (x2.mono e3) ((Fr.trans r1 Fresh.refl r2).trans_ex e3) (Fresh.refl.trans r1 f2) hv
    · obtain ⟨hc, rfl⟩ := bundleR_err hy
      exact k2 _ (by unfold HS.takeO; rw [if_neg hc]) H2 e2
def HS.loseH (h : HS) (n : Int) : HS := { h.takeH n with rows := without h.rows (h.bundle n), pairs := h.pairs.filter fun q => (get (without h.rows (h.bundle n)) q.1).isSome && (get (without h.rows (h.bundle n)) q.2).isSome }
def HS.loseO (h : HS) (n : Int) : Out := if n ∈ h.casts.map (·.1) then .ok (.int (h.bundle n).length) (h.loseH n) else .err "NoCast"
def sp_House_lose (K : PySem.W.Frag) : Sp := wsp K fun h as o => ∃ n, as = [.int n] ∧ OkH h ∧ o = h.loseO n
theorem takeO_ok {h h' : HS} {n : Int} {d : D} (e : h.takeO n = .ok d h') : n ∈ h.casts.map (·.1) ∧ d = .lst ((h.bundle n).map D.int) ∧ h' = h.takeH n := by
  unfold HS.takeO at e
  split at e
  · cases e
    exact ⟨by assumption, rfl, rfl⟩
  · cases e
theorem takeO_err {h : HS} {n : Int} {x : Str} (e : h.takeO n = .err x) : n ∉ h.casts.map (·.1) ∧ x = "NoCast" := by
  unfold HS.takeO at e
  split at e
  · cases e
  · cases e
    exact ⟨by assumption, rfl⟩
theorem ok_House_lose {P : Program} {w : World} {K : PySem.W.Frag} {mg : Str → Option Value} {base : Heap} (S : Says K mg) : Fk P w K mg base 3 (He.fAd K ("House", some "lose")) ["self", "number"] (sp_House_lose K) := by
  have G_House_take_down := ok_House_take_down (P := P) (w := w) (base := base) S
  refine mk_w S.df_House_lose sc_House_lose ?_ (by decide) fun cdv A outer s H H0 Q E p F h as o bd pa x hp k1 k2 => ?_
  · rintro h as o ⟨n, rfl, _⟩
    rfl
  · obtain ⟨n, rfl, ok, rfl⟩ := hp
    obtain ⟨hr, tk, px, hu, hu65⟩ := bd
    refine ⟨_, (pss_cons (ps_set (i := 2) sc_House_lose.nd rfl (Or.inl rfl) (pe_mt (pv 0) S.cls_House S.meth_take_down G_House_take_down (hr.mono (by decide)) px (pa_cons (pv 1) pa_nil)))
      (pss_cons (ps_for (passes_of rfl) rfl (pi_list (pv 2)) (pg_name (i := 3) sc_House_lose.nd rfl (Or.inl rfl)) (pss_one (ps_expr (pe_dpop1 (pe_fld (pv 0) rfl) (pv 3) ⟨rfl, rfl, rfl, rfl⟩))))
      (pss_cons (ps_fld (pv 0) (pe_lc (own := [("pair", 4)]) (g := (gName 4)) (tt := (tAnd (tB (tDIn (tOp (rIxT K) (tVar 4) (tC (.int 0))) (tFld K (tVar 0) "rows"))) (tB (tDIn (tOp (rIxT K) (tVar 4) (tC (.int 1))) (tFld K (tVar 0) "rows"))))) (te := (tVar 4)) rfl sc_House_lose.nd (pi_list (pe_fld (pv 0) rfl)) (blkOk_by (N := ["self", "number", "some", "one", "pair"]) (sc := defScope s_House_lose) (by decide +kernel)) (fun _ _ _ _ _ => (pg_name (i := 4) sc_House_lose.nd rfl (Or.inl rfl))) (fun _ _ _ _ _ => (pts_one (PW.pt (pw_and (pt_cmp (pc_din hu (pe_ix ix_tup (pv 4) (pe_int) (fun _ _ => rfl)) (pe_fld (pv 0) rfl))) (pw_and1 (pt_cmp (pc_din hu (pe_ix ix_tup (pv 4) (pe_int) (fun _ _ => rfl)) (pe_fld (pv 0) rfl)))))))) (fun _ _ _ _ _ => (pv 4))) rfl)
      (pss_one (ps_ret (pe_callB call_len_seq (by rfl) S.free_len (by decide +kernel) (pa_cons (pv 2) pa_nil))))))), ?_⟩
    have w := ok.wf
    have hpl := w.pl
    refine go_asgW (o := h.takeO n) x rfl (ev_var rfl) (ea_cons (ev_var rfl) ea_nil) rfl rfl ⟨n, rfl, ok, rfl⟩ (fun d h' hd H2 F2 x2 r2 f2 => ?_) (fun y hy H2 e2 => ?_)
    · obtain ⟨hc, rfl, rfl⟩ := takeO_ok hd
      refine go_forK (ι := Unit) (ns := h.bundle n) (ev_var rfl) (fun i _ H' => HAt (hC K) H' p F2 { h.takeH n with rows := without h.rows ((h.bundle n).take i) } ∧ Fr (fp p F2) H2 H') (fun _ => [some (.obj p), some (.int n), some (.lst ((h.bundle n).map D.int)), none, none]) () rfl (fun H' e => ⟨by rw [List.take_zero, without_nil]; exact x2.mono e, Fr.of_ex e⟩) (fun i m _ H3 hm pm M hM => ?_) (fun _ H3 pm => ?_)
      · obtain ⟨x3, r3⟩ := pm
        have hmk : m ∈ (without h.rows ((h.bundle n).take i)).map (·.1) := without_keys.mpr ⟨w.sub m (get_key (mem_bundle.mp (List.mem_of_getElem? hm))), not_take (bundle_nodup w.sn n) hm⟩
        refine go_last (go_rowpop (n := m) x3 hmk (e_rows S x3.rd (ev_var rfl)) (ev_var rfl) fun H4 x4 r4 kl => ?_)
        refine go_next fun σ H5 e5 n5 => hM () σ H5 ⟨?_, (Fr.trans r3 Fresh.refl r4).trans_ex e5⟩ (fun a vs q => e5 _ _ (kl a vs q)) (n5.forget 3)
        rw [List.take_succ, hm, Option.toList_some, without_snoc]
        exact x4.mono e5
      · obtain ⟨x3, r3⟩ := pm
        rw [List.take_length] at x3
        refine go_setPairs (ps := h.pairs.filter fun q => (get (without h.rows (h.bundle n)) q.1).isSome && (get (without h.rows (h.bundle n)) q.2).isSome) S.cls_House S.na_pairs x3 (el_lcF _ (ev_is (e_pairs S x3.rd (ev_var rfl)) rfl) (by show h.pairs.length < _; omega) (fun q hq => ?_) (by simp)) (ev_var rfl) fun H4 F4 x4 r4 f4 kl => ?_
        · refine eb_is (eb_and (eb_B (ev_din (k := Sum.inl q.1) (op_fst (ev_var rfl)) (e_rows S x3.rd (ev_var rfl)) x3.rd.rw)) fun _ => eb_B (ev_din (k := Sum.inl q.2) (op_snd (ev_var rfl)) (e_rows S x3.rd (ev_var rfl)) x3.rd.rw)) ?_
          rw [kds_get, kds_get, Option.isSome_map, Option.isSome_map]
        · refine go_ret (ev_is (ev_cb (ea_cons (ev_var rfl) ea_nil) cl_lenL) (by rw [List.length_map])) fun v H5 e5 hv => k1 _ (h.loseH n) (by unfold HS.loseO; rw [if_pos hc]) v H5 F4 (x4.mono e5) ?_ ?_ hv
          · exact (Fr.trans r2 f2 (Fr.trans r3 Fresh.refl r4)).trans_ex e5
          · exact f2.trans r2 (Fresh.refl.trans r3 f4)
    · obtain ⟨hc, rfl⟩ := takeO_err hy
      exact k2 _ (by unfold HS.loseO; rw [if_neg hc]) H2 e2
theorem loseO_ok {h h' : HS} {n : Int} {d : D} (e : h.loseO n = .ok d h') : n ∈ h.casts.map (·.1) ∧ d = .int (h.bundle n).length ∧ h' = h.loseH n := by
  unfold HS.loseO at e
  split at e
  · cases e
    exact ⟨by assumption, rfl, rfl⟩
  · cases e
theorem loseO_err {h : HS} {n : Int} {x : Str} (e : h.loseO n = .err x) : n ∉ h.casts.map (·.1) ∧ x = "NoCast" := by
  unfold HS.loseO at e
  split at e
  · cases e
  · cases e
    exact ⟨by assumption, rfl⟩
def HS.goneO (h : HS) (n : Int) : Out := if n ∈ h.casts.map (·.1) then .ok .non (h.loseH n) else .err "NoCast"
def sp_House_gone (K : PySem.W.Frag) : Sp := wsp K fun h as o => ∃ n, as = [.int n] ∧ OkH h ∧ o = h.goneO n
theorem ok_House_gone {P : Program} {w : World} {K : PySem.W.Frag} {mg : Str → Option Value} {base : Heap} (S : Says K mg) : Fk P w K mg base 4 (He.fAd K ("House", some "gone")) ["self", "number"] (sp_House_gone K) := by
  have G_House_lose := ok_House_lose (P := P) (w := w) (base := base) S
  refine mk_w S.df_House_gone sc_House_gone ?_ (by decide) fun cdv A outer s H H0 Q E p F h as o bd pa x hp k1 k2 => ?_
  · rintro h as o ⟨n, rfl, _⟩
    rfl
  · obtain ⟨n, rfl, ok, rfl⟩ := hp
    obtain ⟨hr, tk, px, hu, hu65⟩ := bd
    refine ⟨_, (pss_one (ps_expr (pe_mt (pv 0) S.cls_House S.meth_lose G_House_lose (hr.mono (by decide)) px (pa_cons (pv 1) pa_nil)))), ?_⟩
    refine go_last (go_doW (o := h.loseO n) x rfl (ev_var rfl) (ea_cons (ev_var rfl) ea_nil) rfl rfl ⟨n, rfl, ok, rfl⟩ (fun d h' hd H2 F2 x2 r2 f2 => ?_) (fun y hy H2 e2 => ?_))
    · obtain ⟨hc, rfl, rfl⟩ := loseO_ok hd
      exact go_next fun σ H3 e3 n3 => k1 .non _ (by unfold HS.goneO; rw [if_pos hc]) _ H3 F2 (x2.mono e3) (r2.trans_ex e3) f2 rfl
    · obtain ⟨hc, rfl⟩ := loseO_err hy
      exact k2 _ (by unfold HS.goneO; rw [if_neg hc]) H2 e2
end Cs
set_option Elab.async false
set_option linter.all false
set_option maxRecDepth 100000
set_option maxHeartbeats 4000000
namespace Cs
open PySem PySem.Spec PyProof.Rows L2
/-! ### what is lost, cast, brought back -/
theorem get_without {α : Type} {l : List (Int × α)} {ks : List Int} {k : Int} : get (without l ks) k = if k ∈ ks then none else get l k := by
  induction l with
  | nil => simp [without, get_nil]
  | cons q r ih =>
    unfold without at ih ⊢
    by_cases c : q.1 ∈ ks
    · rw [List.filter_cons_of_neg (by simpa using c), ih]
      by_cases e : q.1 = k
      · subst e
        rw [if_pos c, if_pos c]
      · rw [get_neg e]
    · rw [List.filter_cons_of_pos (by simpa using c)]
      by_cases e : q.1 = k
      · subst e
        rw [get_pos rfl, get_pos rfl, if_neg c]
      · rw [get_neg e, get_neg e, ih]
theorem without_sub {α : Type} (l : List (Int × α)) (ks : List Int) : ((without l ks).map (·.1)).Sublist (l.map (·.1)) := List.filter_sublist.map _
theorem lose_row {h : HS} {n k : Int} {r : Row} (e : get (h.loseH n).rows k = some r) : k ∉ h.bundle n ∧ get h.rows k = some r := by
  have e' : get (without h.rows (h.bundle n)) k = some r := e
  rw [get_without] at e'
  split at e'
  · cases e'
  · exact ⟨by assumption, e'⟩
theorem lose_sh {h : HS} {n k : Int} (hk : k ∉ h.bundle n) : get (h.loseH n).shelved k = get h.shelved k := by
  show get (without h.shelved (h.bundle n)) k = _
  rw [get_without, if_neg hk]
theorem lose_rowN {h : HS} {n k : Int} (hk : k ∉ h.bundle n) : get (h.loseH n).rows k = get h.rows k := by
  show get (without h.rows (h.bundle n)) k = _
  rw [get_without, if_neg hk]
theorem lose_keys {h : HS} {n k : Int} : k ∈ (h.loseH n).keys ↔ k ∈ h.keys ∧ k ∉ h.bundle n := without_keys
theorem lose_casts {h : HS} {n m : Int} : m ∈ (h.loseH n).casts.map (·.1) ↔ m ∈ h.casts.map (·.1) ∧ m ≠ n := by
  show m ∈ (h.casts.filter fun q => decide (q.1 ≠ n)).map (·.1) ↔ _
  simp only [List.mem_map, List.mem_filter, decide_eq_true_eq]
  constructor
  · rintro ⟨q, ⟨h1, h2⟩, rfl⟩
    exact ⟨⟨q, h1, rfl⟩, h2⟩
  · rintro ⟨⟨q, h1, rfl⟩, h2⟩
    exact ⟨q, ⟨h1, h2⟩, rfl⟩
theorem HInv.lose {h : HS} {b : Nat} (i : HInv h b) (n : Int) : HInv (h.loseH n) b where
  rl := Nat.le_trans (List.length_filter_le _ _) i.rl
  kn := i.kn.sublist (without_sub _ _)
  kb := fun k hk => i.kb k (lose_keys.mp hk).1
  c0 := i.c0
  sn := i.sn.sublist (without_sub _ _)
  sub := fun k hk => lose_keys.mpr ⟨i.sub k (without_keys.mp hk).1, (without_keys.mp hk).2⟩
  cn := i.cn.sublist (List.filter_sublist.map _)
  cr := fun m hm => by
    obtain ⟨h1, h2⟩ := lose_casts.mp hm
    have := i.cr m h1
    rw [lose_sh (fun q => h2 (by rw [mem_bundle, this] at q; exact Option.some.inj q))]
    exact this
  cs := fun k m hk => by
    have hk' : get (without h.shelved (h.bundle n)) k = some m := hk
    rw [get_without] at hk'
    split at hk'
    · cases hk'
    · rename_i c
      exact lose_casts.mpr ⟨i.cs k m hk', fun q => c (mem_bundle.mpr (q ▸ hk'))⟩
  pn := i.pn.sublist List.filter_sublist
  pe := fun q hq => by
    have h2 := (List.mem_filter.mp hq).2
    rw [Bool.and_eq_true] at h2
    exact ⟨get_mem.mp h2.1, get_mem.mp h2.2⟩
  nm := fun k r hr => i.nm k r (lose_row hr).2
  tx := fun k r x hr hx => i.tx k r x (lose_row hr).2 hx
  pr := fun k r p hr hp hs => by
    obtain ⟨h1, h2⟩ := lose_row hr
    rw [lose_sh h1] at hs
    obtain ⟨r', g1, g2, g3⟩ := i.pr k r p h2 hp hs
    have hpb : p ∉ h.bundle n := fun q => h1 (mem_bundle.mpr (g3.symm.trans (mem_bundle.mp q)))
    exact ⟨r', by rw [lose_rowN hpb]; exact g1, g2, by rw [lose_sh hpb, lose_sh h1]; exact g3⟩
  ac := by
    obtain ⟨rank, hrk⟩ := i.ac
    refine ⟨rank, fun k r p hr hp hpk hsh => ?_⟩
    obtain ⟨h1, h2⟩ := lose_row hr
    obtain ⟨h3, h4⟩ := lose_keys.mp hpk
    rw [lose_sh h4, lose_sh h1] at hsh
    exact hrk k r p h2 hp h3 hsh
  pb := fun k r p hr hp => i.pb k r p (lose_row hr).2 hp
  bx := fun k r p r' hr hp hr' => i.bx k r p r' (lose_row hr).2 hp (lose_row hr').2
theorem OkH.lose {h : HS} (o : OkH h) (n : Int) : OkH (h.loseH n) := let ⟨b, i, hb⟩ := o; ⟨b, i.lose n, hb⟩
/-! cast -/
theorem get_putAll {ks : List Int} {m k : Int} : ∀ {l : List (Int × Int)}, get (putAll l ks m) k = if k ∈ ks then some m else get l k := by
  induction ks with
  | nil => intro l; rfl
  | cons q r ih =>
    intro l
    show get (putAll (put l q m) r m) k = _
    rw [ih, get_put]
    by_cases c1 : k ∈ r
    · rw [if_pos c1, if_pos (by simp [c1])]
    · by_cases c2 : k = q
      · rw [if_neg c1, if_pos c2, if_pos (by simp [c2])]
      · rw [if_neg c1, if_neg c2, if_neg (by simp [c1, c2])]
theorem put_keys {α : Type} {l : List (Int × α)} {n k : Int} {a : α} : k ∈ (put l n a).map (·.1) ↔ k ∈ l.map (·.1) ∨ k = n := by
  rw [← get_mem, ← get_mem, get_put]
  by_cases e : k = n <;> simp [e]
theorem put_nodup {α : Type} {l : List (Int × α)} {n : Int} {a : α} (h : (l.map (·.1)).Nodup) : ((put l n a).map (·.1)).Nodup := by
  cases c : get l n with
  | none =>
    rw [keys_put_new c]
    refine List.nodup_append.mpr ⟨h, by simp, fun x hx y hy => ?_⟩
    simp only [List.mem_cons, List.not_mem_nil, or_false] at hy
    rw [hy]
    exact fun q => get_none.mp c (q ▸ hx)
  | some z => rw [keys_put_old (by rw [c]; rfl)]; exact h
theorem putAll_nodup {m : Int} {ks : List Int} : ∀ {l : List (Int × Int)}, (l.map (·.1)).Nodup → ((putAll l ks m).map (·.1)).Nodup := by
  induction ks with
  | nil => intro l h; exact h
  | cons q r ih => intro l h; exact ih (put_nodup h)
noncomputable def HS.castH (h : HS) (n : Int) : HS := { h with shelved := putAll h.shelved (h.wholeL n) n, casts := h.casts ++ [(n, h.today)] }
theorem cast_sh {h : HS} {n k : Int} : get (h.castH n).shelved k = if k ∈ h.wholeL n then some n else get h.shelved k := get_putAll
theorem HInv.cast {h : HS} {b : Nat} (i : HInv h b) {n : Int} (ht : h.there n = true) : HInv (h.castH n) b := by
  have hw : ∀ {k : Int}, k ∈ h.wholeL n ↔ Desc h n k := mem_whole ht
  have hwt : ∀ {k : Int}, k ∈ h.wholeL n → h.there k = true := fun q => Desc.there ht (hw.mp q)
  have hwn : ∀ {k : Int}, k ∈ h.wholeL n → get h.shelved k = none := fun q => there_none (hwt q)
  have hnc : n ∉ h.casts.map (·.1) := fun q => by
    have := i.cr n q
    rw [there_none ht] at this
    cases this
  have hns : ∀ k, get h.shelved k ≠ some n := fun k q => hnc (i.cs k n q)
  have hkey : ∀ {k : Int}, k ∈ (h.castH n).shelved.map (·.1) → k ∈ h.keys := fun {k} q => by
    rw [← get_mem, cast_sh] at q
    split at q
    · rename_i c
      obtain ⟨r, hr⟩ := there_row (hwt c)
      exact get_key hr
    · exact i.sub k (get_mem.mp q)
  have same : ∀ {k p : Int}, get (h.castH n).shelved p = get (h.castH n).shelved k → get h.shelved p = get h.shelved k := fun {k p} q => by
    rw [cast_sh, cast_sh] at q
    by_cases c1 : p ∈ h.wholeL n <;> by_cases c2 : k ∈ h.wholeL n
    · rw [hwn c1, hwn c2]
    · rw [if_pos c1, if_neg c2] at q
      exact absurd q.symm (hns k)
    · rw [if_neg c1, if_pos c2] at q
      exact absurd q (hns p)
    · rw [if_neg c1, if_neg c2] at q
      exact q
  refine ⟨i.rl, i.kn, i.kb, i.c0, putAll_nodup i.sn, fun k hk => hkey hk, ?_, ?_, ?_, i.pn, i.pe, i.nm, i.tx, ?_, ?_, i.pb, i.bx⟩
  · show ((h.casts ++ [(n, h.today)]).map (·.1)).Nodup
    rw [List.map_append]
    refine List.nodup_append.mpr ⟨i.cn, by simp, fun x hx y hy => ?_⟩
    simp only [List.map_cons, List.map_nil, List.mem_cons, List.not_mem_nil, or_false] at hy
    rw [hy]
    exact fun q => hnc (q ▸ hx)
  · intro m hm
    have hm' : m ∈ (h.casts ++ [(n, h.today)]).map (·.1) := hm
    rw [List.map_append] at hm'
    rw [cast_sh]
    rcases List.mem_append.mp hm' with q | q
    · have hs := i.cr m q
      rw [if_neg (fun c => by rw [hwn c] at hs; cases hs)]
      exact hs
    · simp only [List.map_cons, List.map_nil, List.mem_cons, List.not_mem_nil, or_false] at q
      rw [q, if_pos (hw.mpr .self)]
  · intro k m hk
    show m ∈ (h.casts ++ [(n, h.today)]).map (·.1)
    rw [List.map_append]
    rw [cast_sh] at hk
    split at hk
    · cases hk
      exact List.mem_append_right _ (by simp)
    · exact List.mem_append_left _ (i.cs k m hk)
  · intro k r p hr hp hs
    rw [cast_sh] at hs
    by_cases c : k ∈ h.wholeL n
    · rw [if_pos c] at hs
      have hkn : k ≠ n := fun q => hs (by rw [q])
      obtain ⟨_, r0, p0, g1, g2, g3⟩ := (desc_up hkn).mp (hw.mp c)
      have hr' : get h.rows k = some r := hr
      rw [hr'] at g1
      cases g1
      rw [hp] at g2
      cases g2
      obtain ⟨r', q1, q2, q3⟩ := i.pr k r p hr hp (by rw [hwn c]; exact fun z => by cases z)
      exact ⟨r', q1, q2, by rw [cast_sh, cast_sh, if_pos (hw.mpr g3), if_pos c]⟩
    · rw [if_neg c] at hs
      obtain ⟨r', q1, q2, q3⟩ := i.pr k r p hr hp hs
      have hpw : p ∉ h.wholeL n := fun q => c (hw.mpr (.step hr hp (shelved_there (get_key (show get h.rows k = some r from hr)) (q3.symm.trans (hwn q))) (hw.mp q)))
      exact ⟨r', q1, q2, by rw [cast_sh, cast_sh, if_neg hpw, if_neg c]; exact q3⟩
  · obtain ⟨rank, hrk⟩ := i.ac
    exact ⟨rank, fun k r p hr hp hpk hsh => hrk k r p hr hp hpk (same hsh)⟩
theorem cast_eq {h : HS} {n : Int} (ht : h.there n = true) : h.castO n = .ok .non (h.castH n) := by
  unfold HS.castO
  rw [if_pos ht]
  rfl
end Cs
set_option Elab.async false
set_option linter.all false
set_option maxRecDepth 100000
set_option maxHeartbeats 4000000
namespace Cs
open PySem PySem.Spec PyProof.Rows L2
section
variable {K : PySem.W.Frag} {ds : List (Option D)} {H : Hp} {te tl : TE} {t : TT} {tu tz : TS} {E : Ends} {ι : Type}
theorem EnvOk.any {H : Hp} {σ : L2.St} {i : Nat} {y : D} (h : EnvOk H σ ds) (hy : ds[i]? = some (some y)) : ds.set i (some y) = ds := by
  apply List.ext_getElem?
  intro k
  rw [List.getElem?_set]
  split
  · rename_i e
    subst e
    split
    · exact hy.symm
    · rw [List.getElem?_eq_none (by omega)] at hy
      cases hy
  · rfl
/-- if c: x = e -/
theorem go_whenSet {b : Bool} {i : Nat} {x y : D} (h : EvB t ds H b) (hx : ds[i]? = some (some x)) (h1 : b = true → EvD te ds H y) (k : Go tz (ds.set i (some (if b = true then y else x))) H E) : Go (tSeq (tIfS t (tAsg te (gName i)) tNext) tz) ds H E := fun σ H1 e n =>
  h σ H1 e n _ fun H2 e2 => by
    cases b with
    | true => exact iteT (h1 rfl σ H2 (e.trans e2) (n.mono e2) _ fun v H3 e3 hv => k _ H3 ((e.trans e2).trans e3) (((n.mono e2).mono e3).set hv i))
    | false =>
      refine iteF (k σ H2 (e.trans e2) ?_)
      have : ds.set i (some (if false = true then y else x)) = ds := (n.mono e2).any hx
      rw [this]
      exact n.mono e2
/-- over a tuple of numbers -/
theorem go_forTI {ns : List Int} {j : Nat} (hl : EvD tl ds H (.tup (ns.map D.int))) (P : Nat → ι → Hp → Prop) (env : ι → List (Option D)) (i0 : ι) (he : env i0 = ds) (h0 : ∀ H', Ex H H' → P 0 i0 H')
    (hs : ∀ i n s H1, ns[i]? = some n → P i s H1 → ∀ N : L2.St → Hp → Prop, (∀ s' σ H2, P (i + 1) s' H2 → (∀ a vs, H1 a = some (.tup vs) → H2 a = some (.tup vs)) → EnvOk H2 σ (env s') → N σ H2) → Go tu ((env s).set j (some (.int n))) H1 { E with nx := N, ct := N, bk := tz E })
    (hd : ∀ s H1, P ns.length s H1 → Go tz (env s) H1 E) : Go (tSeq (tFor (iTup K tl) (gName j) tu) tz) ds H E := fun σ H1 e n =>
  hl σ H1 e n _ fun v H2 e2 hv => by
    obtain ⟨a, vs, rfl, ha, hi⟩ := hv
    have hvs := hi.ints
    subst hvs
    refine ⟨a, rfl, ⟨_, SqT.of ha⟩, for_tup (xs := ns.map V.int) (fun i σ' H' => H' a = some (.tup (ns.map V.int)) ∧ ∃ s, P i s H' ∧ EnvOk H' σ' (env s)) ⟨ha, i0, h0 H2 (e.trans e2), by rw [he]; exact n.mono e2⟩ (fun i σ' H' _ p => SqT.of p.1) (fun i x σ' H' hx p => ?_) fun σ' H' p => ?_⟩
    · obtain ⟨ha', s, ps, n'⟩ := p
      rw [List.getElem?_map] at hx
      obtain ⟨m, hm, rfl⟩ : ∃ m, ns[i]? = some m ∧ V.int m = x := by
        cases e3 : ns[i]? with
        | none => rw [e3] at hx; cases hx
        | some m => rw [e3] at hx; exact ⟨m, rfl, Option.some.inj hx⟩
      exact hs i m s H' hm ps _ (fun s' σ2 H3 p3 fr n3 => ⟨fr a _ ha', s', p3, n3⟩) _ H' (Same.refl _) (n'.set (d := .int m) (v := .int m) rfl j)
    · obtain ⟨_, s, ps, n'⟩ := p
      rw [List.length_map] at ps
      exact hd s H' ps σ' H' (Same.refl _) n'
end
/-! ### back -/
def HS.goneP (h : HS) : Option Int → Bool
  | none => false
  | some p => !h.there p
def HS.backPar (h : HS) (o : Option Int) : Option Int := if h.goneP o = true then none else o
def HS.backH (h : HS) (n : Int) (r : Row) : HS := { h.takeH n with rows := put h.rows n ⟨h.backPar r.par, freeV r.name (h.namesIn (h.backPar r.par) none), r.text⟩ }
def HS.backO (h : HS) (n : Int) : Out := if n ∈ h.casts.map (·.1) then match get h.rows n with
    | some r => .ok .non (h.backH n r)
    | none => .err "NoCast"
  else .err "NoCast"
theorem names_len (h : HS) (par but : Option Int) : (h.namesIn par but).length ≤ h.rows.length := by
  unfold HS.namesIn
  refine Nat.le_trans (filterMap_len _ _) (Nat.le_trans (List.length_filter_le _ _) ?_)
  simp [HS.keys]
theorem OkH.name {h : HS} (o : OkH h) {n : Int} {r : Row} (hr : get h.rows n = some r) : r.name.length ≤ 1000 := by
  obtain ⟨b, i, hb⟩ := o
  have := i.nm n r hr
  omega
def sp_House_back (K : PySem.W.Frag) : Sp := wsp K fun h as o => ∃ n, as = [.int n] ∧ OkH h ∧ o = h.backO n
theorem ok_House_back {P : Program} {w : World} {K : PySem.W.Frag} {mg : Str → Option Value} {base : Heap} (S : Says K mg) : Fk P w K mg base 3 (He.fAd K ("House", some "back")) ["self", "number"] (sp_House_back K) := by
  have G_House_take_down := ok_House_take_down (P := P) (w := w) (base := base) S
  have G_House_names_in := ok_House_names_in (P := P) (w := w) (base := base) S
  have G_free_name := ok_free_name (P := P) (w := w) (base := base) S
  have G_House_is_there := ok_House_is_there (P := P) (w := w) (base := base) S
  have G_House_bundle := ok_House_bundle (P := P) (w := w) (base := base) S
  refine mk_w S.df_House_back sc_House_back ?_ (by decide) fun cdv A outer s H H0 Q E p F h as o bd pa x hp k1 k2 => ?_
  · rintro h as o ⟨n, rfl, _⟩
    rfl
  · obtain ⟨n, rfl, ok, rfl⟩ := hp
    obtain ⟨hr, tk, px, hu, hu65⟩ := bd
    refine ⟨_, (pss_cons (ps_expr (pe_mt (pv 0) S.cls_House S.meth_bundle G_House_bundle (hr.mono (by decide)) px (pa_cons (pv 1) pa_nil)))
      (pss_cons (ps_asg (pe_dget hu (pe_fld (pv 0) rfl) (pv 1) (fun _ _ => rfl)) (pg_tup rfl (pgs_cons (pg_name (i := 2) sc_House_back.nd rfl (Or.inl rfl)) (pgs_cons (pg_name (i := 3) sc_House_back.nd rfl (Or.inl rfl)) (pgs_cons (pg_name (i := 4) sc_House_back.nd rfl (Or.inl rfl)) pgs_nil)))))
      (pss_cons (ps_if (PW.pt (pw_and (pt_cmp (pc_notN (pv 2))) (pw_and1 (pt_not (pt_val (pe_mt (pv 0) S.cls_House S.meth_is_there G_House_is_there (hr.mono (by decide)) px (pa_cons (pv 2) pa_nil))))))) (pss_one (ps_set (i := 2) sc_House_back.nd rfl (Or.inl rfl) (pe_non))) pss_nil)
      (pss_cons (ps_set (i := 3) sc_House_back.nd rfl (Or.inl rfl) (pe_cf G_free_name (hr.mono (by decide)) (by rfl) S.glo_free_name px (pa_cons (pv 3) (pa_cons (pe_mt (pv 0) S.cls_House S.meth_names_in G_House_names_in (hr.mono (by decide)) px (pa_cons (pv 2) (pa_cons (pe_non) pa_nil))) pa_nil))))
      (pss_cons (ps_expr (pe_mt (pv 0) S.cls_House S.meth_take_down G_House_take_down (hr.mono (by decide)) px (pa_cons (pv 1) pa_nil)))
      (pss_one (ps_dput hu (pe_fld (pv 0) rfl) (pv 1) (pe_tup (pa_cons (pv 2) (pa_cons (pv 3) (pa_cons (pv 4) pa_nil)))) rfl))))))), ?_⟩
    have w := ok.wf
    have hcl := w.cl
    have hrl := w.rl
    refine go_doX (ex_bundle x.rd w.sl (by omega) (ev_var rfl) (ev_var rfl)) (fun d hd => ?_) (fun y hy H2 e2 => ?_)
    · obtain ⟨hc, _⟩ := bundleR_ok hd
      obtain ⟨q, hq, rfl⟩ := List.mem_map.mp hc
      obtain ⟨r, hr'⟩ := keys_row (w.ca q hq)
      refine go_un3 (e_row S x.rd (ev_var rfl) (ev_var rfl) hr') ?_
      refine go_whenSet (b := h.goneP r.par) (x := oI r.par) (y := .non) ?_ rfl (fun _ => ev_non) ?_
      · cases hpar : r.par with
        | none => exact eb_is (eb_and (c := true) (eb_B (ev_notN (ev_var rfl) (notN_oI none))) fun q => by simp at q) rfl
        | some z => exact eb_is (eb_and (eb_B (ev_notN (ev_var rfl) (notN_oI (some z)))) fun _ => eb_not (eb_B (e_there (n := z) x.rd (ev_var rfl) (ev_var rfl)))) (by simp [HS.goneP])
      have epar : (if h.goneP r.par = true then D.non else oI r.par) = oI (h.backPar r.par) := by
        unfold HS.backPar
        split <;> rfl
      rw [epar]
      have nl := names_len h (h.backPar r.par) none
      refine go_asg (e_freeName (ok.name hr') (by omega) (ev_var rfl) (ev_meth (ev_var rfl) x.ob rfl (ea_cons (ev_var rfl) (ea_cons ev_non ea_nil)) (pr_namesIn (par := h.backPar r.par) (but := none) x hrl))) ?_
      have pe : pureE [some (.obj p), some (.int q.1), some (oI (h.backPar r.par)), some (.str (freeV r.name (h.namesIn (h.backPar r.par) none))), some (oS r.text)] = true := by cases h.backPar r.par <;> cases r.text <;> rfl
      refine go_doW (o := h.takeO q.1) x rfl (ev_var rfl) (ea_cons (ev_var rfl) ea_nil) rfl pe ⟨q.1, rfl, ok, rfl⟩ (fun d h' hd H2 F2 x2 r2 f2 => ?_) (fun y hy H2 e2 => ?_)
      · obtain ⟨_, _, rfl⟩ := takeO_ok hd
        refine go_last (go_rowput (n := q.1) (r := ⟨h.backPar r.par, freeV r.name (h.namesIn (h.backPar r.par) none), r.text⟩) x2 (by show h.rows.length < _; omega) (ev_tup (ea_cons (ev_var rfl) (ea_cons (ev_var rfl) (ea_cons (ev_var rfl) ea_nil))) (by simp)) (e_rows S x2.rd (ev_var rfl)) (ev_var rfl) pe fun H3 x3 r3 => ?_)
        exact go_next fun σ H4 e4 n4 => k1 .non (h.backH q.1 r) (by unfold HS.backO; rw [if_pos hc, hr']) _ H4 F2 (x3.mono e4) ((Fr.trans r2 f2 r3).trans_ex e4) f2 rfl
      · exact absurd hc (takeO_err hy).1
    · obtain ⟨hc, rfl⟩ := bundleR_err hy
      exact k2 _ (by unfold HS.backO; rw [if_neg hc]) H2 e2
/-! ### next_day, empty -/
def loseAll (h : HS) (ns : List Int) : HS := ns.foldl HS.loseH h
def loseCounts : HS → List Int → List Int
  | _, [] => []
  | h, n :: ns => (h.bundle n).length :: loseCounts (h.loseH n) ns
theorem loseAll_snoc (h : HS) (ns : List Int) (n : Int) : loseAll h (ns ++ [n]) = (loseAll h ns).loseH n := by
  unfold loseAll
  rw [List.foldl_append]
  rfl
theorem counts_snoc : ∀ (ns : List Int) (h : HS) (n : Int), loseCounts h (ns ++ [n]) = loseCounts h ns ++ [(((loseAll h ns).bundle n).length : Int)]
  | [], _, _ => rfl
  | m :: r, h, n => by
    show ((h.bundle m).length : Int) :: loseCounts (h.loseH m) (r ++ [n]) = _
    rw [counts_snoc r]
    rfl
theorem OkH.loseAll {h : HS} (o : OkH h) : ∀ ns : List Int, OkH (loseAll h ns) := by
  intro ns
  induction ns generalizing h with
  | nil => exact o
  | cons n r ih => exact ih (o.lose n)
theorem loseAll_casts {m : Int} : ∀ {ns : List Int} {h : HS}, m ∈ (loseAll h ns).casts.map (·.1) ↔ m ∈ h.casts.map (·.1) ∧ m ∉ ns := by
  intro ns
  induction ns with
  | nil => intro h; simp [loseAll]
  | cons n r ih =>
    intro h
    show m ∈ (loseAll (h.loseH n) r).casts.map (·.1) ↔ _
    rw [ih, lose_casts]
    simp only [List.mem_cons, not_or]
    exact ⟨fun ⟨⟨a, b⟩, c⟩ => ⟨a, b, c⟩, fun ⟨a, b, c⟩ => ⟨⟨a, b⟩, c⟩⟩
def HS.tomorrow (h : HS) : HS := { h with today := h.today + 1 }
theorem HInv.tomorrow {h : HS} {b : Nat} (i : HInv h b) : HInv h.tomorrow b := ⟨i.rl, i.kn, i.kb, i.c0, i.sn, i.sub, i.cn, i.cr, i.cs, i.pn, i.pe, i.nm, i.tx, i.pr, i.ac, i.pb, i.bx⟩
def HS.dueNs (h : HS) : List Int := (h.casts.filter fun q => decide (q.2 + h.keep ≤ h.today)).map (·.1)
def HS.nextO (h : HS) : Out := .ok (.tup (h.tomorrow.dueNs.map D.int)) (loseAll h.tomorrow h.tomorrow.dueNs)
theorem due_nodup {h : HS} (hn : (h.casts.map (·.1)).Nodup) : h.dueNs.Nodup := hn.sublist (List.filter_sublist.map _)
theorem due_mem {h : HS} {n : Int} (hn : n ∈ h.dueNs) : n ∈ h.casts.map (·.1) := by
  obtain ⟨q, hq, rfl⟩ := List.mem_map.mp hn
  exact List.mem_map.mpr ⟨q, (List.mem_filter.mp hq).1, rfl⟩
def sp_House_next_day (K : PySem.W.Frag) : Sp := wsp K fun h as o => as = [] ∧ OkH h ∧ o = h.nextO
theorem ok_House_next_day {P : Program} {w : World} {K : PySem.W.Frag} {mg : Str → Option Value} {base : Heap} (S : Says K mg) : Fk P w K mg base 4 (He.fAd K ("House", some "next_day")) ["self"] (sp_House_next_day K) := by
  have G_House_lose := ok_House_lose (P := P) (w := w) (base := base) S
  refine mk_w S.df_House_next_day sc_House_next_day ?_ (by decide) fun cdv A outer s H H0 Q E p F h as o bd pa x hp k1 k2 => ?_
  · rintro h as o ⟨rfl, _⟩
    rfl
  · obtain ⟨rfl, ok, rfl⟩ := hp
    obtain ⟨hr, tk, px, hu, hu65⟩ := bd
    refine ⟨_, (pss_cons (ps_fld (pv 0) (pe_op op_add (pe_fld (pv 0) rfl) (pe_int)) rfl)
      (pss_cons (ps_set (i := 2) sc_House_next_day.nd rfl (Or.inl rfl) (pe_callTy call_tuple_of (by rfl) S.free_tuple (by decide +kernel) (pa_cons (pe_lc (own := [("number", 1), ("day", 3)]) (g := (gTup K 2 (gCons (gName 1) (gCons (gName 3) gNil)))) (tt := (tTest (tOp rLeI (tOp rAddI (tVar 3) (tFld K (tVar 0) "keep")) (tFld K (tVar 0) "today")))) (te := (tVar 1)) rfl sc_House_next_day.nd (pi_list (pe_fld (pv 0) rfl)) (blkOk_by (N := ["self", "number", "some", "day"]) (sc := defScope s_House_next_day) (by decide +kernel)) (fun _ _ _ _ _ => (pg_tup rfl (pgs_cons (pg_name (i := 1) sc_House_next_day.nd rfl (Or.inl rfl)) (pgs_cons (pg_name (i := 3) sc_House_next_day.nd rfl (Or.inl rfl)) pgs_nil)))) (fun _ _ _ _ _ => (pts_one (pt_cmpR op_le (pe_op op_add (pv 3) (pe_fld (pv 0) rfl)) (pe_fld (pv 0) rfl) (nomark _)))) (fun _ _ _ _ _ => (pv 1))) pa_nil)))
      (pss_cons (ps_for (passes_of rfl) rfl (pi_tup (pv 2)) (pg_name (i := 1) sc_House_next_day.nd rfl (Or.inl rfl)) (pss_one (ps_expr (pe_mt (pv 0) S.cls_House S.meth_lose G_House_lose (hr.mono (by decide)) px (pa_cons (pv 1) pa_nil)))))
      (pss_one (ps_ret (pv 2)))))), ?_⟩
    have w := ok.wf
    have hcl := w.cl
    have ok1 : OkH h.tomorrow := let ⟨b, i, hb⟩ := ok; ⟨b, i.tomorrow, hb⟩
    have cn : (h.casts.map (·.1)).Nodup := let ⟨b, i, hb⟩ := ok; i.cn
    refine go_fld (n := h.today + 1) (h' := h.tomorrow) S.cls_House S.na_today x (ev_op (e_today S x.rd (ev_var rfl)) ev_int op_addI) (ev_var rfl) rfl rfl rfl rfl rfl rfl fun H2 x2 r2 => ?_
    refine go_asg (x := .tup (h.tomorrow.dueNs.map D.int)) ?_ ?_
    · refine ev_cb (ea_cons ?_ ea_nil) cl_tupleOf
      unfold HS.dueNs
      rw [← fm_map]
      refine ev_lcP2 (by decide) _ (e_casts S x2.rd (ev_var rfl)) (by show h.casts.length < _; omega) (fun q hq => ?_) (fun q hq y hy => ?_)
      · refine eb_is (eb_test (ev_op (ev_op (ev_var rfl) (e_keep S x2.rd (ev_var rfl)) op_addI) (e_today S x2.rd (ev_var rfl)) op_leI)) ?_
        rw [isSome_if]
      · split at hy
        · cases hy
          exact ⟨ev_var rfl, rfl⟩
        · cases hy
    refine go_forTI (ι := Foot) (ns := h.tomorrow.dueNs) (ev_var rfl) (fun i F' H' => HAt (hC K) H' p F' (loseAll h.tomorrow (h.tomorrow.dueNs.take i)) ∧ Fr (fp p F) H2 H' ∧ Fresh p H2 F F') (fun _ => [some (.obj p), none, some (.tup (h.tomorrow.dueNs.map D.int)), none]) F rfl (fun H' e => ⟨x2.mono e, Fr.of_ex e, Fresh.refl⟩) (fun i m F1 H3 hm pm M hM => ?_) (fun F1 H3 pm => ?_)
    · obtain ⟨x3, r3, f3⟩ := pm
      have hmc : m ∈ (loseAll h.tomorrow (h.tomorrow.dueNs.take i)).casts.map (·.1) := loseAll_casts.mpr ⟨due_mem (List.mem_of_getElem? hm), not_take (due_nodup cn) hm⟩
      have pe : pureE [some (.obj p), some (.int m), some (.tup (h.tomorrow.dueNs.map D.int)), none] = true := by
        show (true && (true && (D.pureL _ && true))) = true
        rw [ints_pure]
        rfl
      refine go_last (go_doW (o := (loseAll h.tomorrow (h.tomorrow.dueNs.take i)).loseO m) x3 rfl (ev_var rfl) (ea_cons (ev_var rfl) ea_nil) rfl pe ⟨m, rfl, ok1.loseAll _, rfl⟩ (fun d h' hd H4 F4 x4 r4 f4 => ?_) (fun y hy H4 e4 => absurd hmc (loseO_err hy).1))
      obtain ⟨_, _, rfl⟩ := loseO_ok hd
      refine go_next fun σ H5 e5 n5 => hM F4 σ H5 ⟨?_, (Fr.trans r3 f3 r4).trans_ex e5, f3.trans r3 f4⟩ (fun a vs q => e5 _ _ (r4 a _ q (x3.not_tup q))) (n5.forget 1)
      rw [List.take_succ, hm, Option.toList_some, loseAll_snoc]
      exact x4.mono e5
    · obtain ⟨x3, r3, f3⟩ := pm
      rw [List.take_length] at x3
      exact go_ret (ev_var rfl) fun v H4 e4 hv => k1 _ _ rfl v H4 F1 (x3.mono e4) ((Fr.trans r2 Fresh.refl r3).trans_ex e4) (Fresh.refl.trans r2 f3) hv
theorem el_listOf {K : PySem.W.Frag} {ds : List (Option D)} {H : Hp} {ta : TE} {xs : List D} (h : EvD ta ds H (.lst xs)) : EvL (tCB (rListOf K) (tCons ta tNil)) ds H xs := fun σ H1 e n Q k =>
  h σ H1 e n _ fun v H2 e2 hv => by
    obtain ⟨p, us, rfl, hp, hu⟩ := hv
    exact ⟨p, us, rfl, .inl (SqL.of hp), fun l hl => k l us _ (e2.free hl) (e2.trans (Ex.new hl)) upd_same (hu.mono (Ex.new hl))⟩
theorem cb1 {r : List V → Hp → VK → Prop} {ta : TE} {σ : L2.St} {H : Hp} {Q : VK} (h : ta σ H fun x H1 => r [x] H1 Q) : tCB r (tCons ta tNil) σ H Q := h
theorem yes1 {σ : L2.St} {H : Hp} {Q : Bool → Hp → Prop} (h : Q true H) : tYes σ H Q := h
theorem ret1 {te : TE} {E : Ends} {σ : L2.St} {H : Hp} (h : te σ H E.rt) : tRet te E σ H := h
theorem li1 {K : PySem.W.Frag} {tl : TE} {σ : L2.St} {H : Hp} {R : It → Hp → Prop} (h : tl σ H fun x H1 => ∃ a, x = .ref a ∧ (∃ xs, SqL K H1 a xs) ∧ R (Itl K a) H1) : iList K tl σ H R := h
def HS.emptyO (h : HS) : Out := .ok (.int (loseCounts h (h.casts.map (·.1))).sum) (loseAll h (h.casts.map (·.1)))
def sp_House_empty (K : PySem.W.Frag) : Sp := wsp K fun h as o => as = [] ∧ OkH h ∧ o = h.emptyO
theorem ok_House_empty {P : Program} {w : World} {K : PySem.W.Frag} {mg : Str → Option Value} {base : Heap} (S : Says K mg) : Fk P w K mg base 4 (He.fAd K ("House", some "empty")) ["self"] (sp_House_empty K) := by
  have G_House_lose := ok_House_lose (P := P) (w := w) (base := base) S
  refine mk_w S.df_House_empty sc_House_empty ?_ (by decide) fun cdv A outer s H H0 Q E p F h as o bd pa x hp k1 k2 => ?_
  · rintro h as o ⟨rfl, _⟩
    rfl
  · obtain ⟨rfl, ok, rfl⟩ := hp
    obtain ⟨hr, tk, px, hu, hu65⟩ := bd
    refine ⟨_, (pss_one (ps_ret (pe_callB (cr_sum rfl) (by rfl) S.free_sum (by decide +kernel) (pa_cons (pe_lc (own := [("number", 1), ("day", 2)]) (g := (gTup K 2 (gCons (gName 1) (gCons (gName 2) gNil)))) (tt := tYes) (te := (tMeth (He.ga K "House") "lose" (sp_House_lose K) [] E0 (tVar 0) (tCons (tVar 1) tNil))) rfl sc_House_empty.nd (pi_list (pe_callTy call_list_of (by rfl) S.free_list (by decide +kernel) (pa_cons (pe_fld (pv 0) rfl) pa_nil))) (blkOk_by (N := ["self", "number", "day"]) (sc := defScope s_House_empty) (by decide +kernel)) (fun _ _ _ _ _ => (pg_tup rfl (pgs_cons (pg_name (i := 1) sc_House_empty.nd rfl (Or.inl rfl)) (pgs_cons (pg_name (i := 2) sc_House_empty.nd rfl (Or.inl rfl)) pgs_nil)))) (fun _ _ _ _ _ => pts_nil) (fun _ _ _ _ _ => (pe_mt (pv 0) S.cls_House S.meth_lose G_House_lose (hr.mono (by decide)) passL (pa_cons (pv 1) pa_nil)))) pa_nil)))), ?_⟩
    have w := ok.wf
    have hcl := w.cl
    have cn : (h.casts.map (·.1)).Nodup := let ⟨b, i, hb⟩ := ok; i.cn
    intro σ H1 e n
    refine ret1 (cb1 ?_)
    unfold tLc
    refine li1 ?_
    refine (el_listOf (K := K) (e_casts S x.rd (ev_var (i := 0) rfl))) σ H1 e n _ fun a vs H2 ha e2 hv il => ?_
    refine ⟨a, rfl, ⟨vs, SqL.of hv⟩, fun c hc => ?_⟩
    have x2 := x.mono (e.trans e2)
    have eb : Ex H2 (upd H2 c (.lst [])) := Ex.new hc
    have xb := x2.mono eb
    have ncF : c ∉ fp p F := fun m => x2.fp_some m hc
    have nac : a ≠ c := ne_of_none hv hc
    have naF : a ∉ fp p F := fun m => x.fp_some m (e.free ha)
    have w12 : wipe σ [1, 2] = (σ.set 2 none).set 1 none := rfl
    have nb0 : EnvOk (upd H2 c (.lst [])) (wipe σ [1, 2]) [some (.obj p), none, none] := (((n.mono e2).mono eb).clear 2 none).clear 1 none
    refine lc_list (xs := vs) (fun i H' => ∃ F', HAt (hC K) H' p F' (loseAll h ((h.casts.map (·.1)).take i)) ∧ H' c = some (.lst ((loseCounts h ((h.casts.map (·.1)).take i)).map V.int)) ∧ Fr (c :: fp p F) (upd H2 c (.lst [])) H' ∧ Fresh p (upd H2 c (.lst [])) F F') ?_ ?_ ?_ ?_
    · exact ⟨F, xb, upd_same, fun b o hb _ => hb, Fresh.refl⟩
    · rintro i H' _ ⟨F', _, _, fr, _⟩
      refine SqL.of (fr a _ (eb _ _ hv) fun m => ?_)
      rcases List.mem_cons.mp m with q | q
      · exact nac q
      · exact naF q
    · rintro i y H' hy ⟨F', x', hc', fr, fs⟩
      obtain ⟨d, hd, hx⟩ := il.getV hy
      rw [List.getElem?_map] at hd
      obtain ⟨q, hq, rfl⟩ : ∃ q, h.casts[i]? = some q ∧ pairD q = d := by
        cases e3 : h.casts[i]? with
        | none => rw [e3] at hd; cases hd
        | some q => rw [e3] at hd; exact ⟨q, rfl, Option.some.inj hd⟩
      obtain ⟨b, us, rfl, hb, u1, r1, rfl, hu1, u2, r2, rfl, hu2, hr2⟩ := hx
      cases (show _ = _ from hr2)
      cases (show _ = _ from hu1)
      cases (show _ = _ from hu2)
      have hb' : H' b = some (.tup [.int q.1, .int q.2]) := fr b _ (eb _ _ hb) fun m => by
        rcases List.mem_cons.mp m with z | z
        · rw [z, hc] at hb; cases hb
        · exact x2.not_tup hb z
      have hm : (h.casts.map (·.1))[i]? = some q.1 := by rw [List.getElem?_map, hq]; rfl
      have ncF' : c ∉ fp p F' := fun m => by
        rcases fs c m with z | z
        · exact ncF z
        · rw [upd_same] at z; cases z
      have nn : EnvOk H' (((wipe σ [1, 2]).set 1 (some (.int q.1))).set 2 (some (.int q.2))) [some (.obj p), some (.int q.1), some (.int q.2)] := by
        have h0 : EnvOk H' (wipe σ [1, 2]) [some (.obj p), none, none] := nb0.tups (fun z ws hz => fr z _ hz fun m => by
          rcases List.mem_cons.mp m with y | y
          · rw [y, upd_same] at hz; cases hz
          · exact xb.not_tup hz y) rfl
        exact (h0.set (d := .int q.1) (v := .int q.1) rfl 1).set (d := .int q.2) (v := .int q.2) rfl 2
      refine ⟨b, _, rfl, SqT.of hb', rfl, _, _, rfl, _, _, rfl, rfl, ?_⟩
      refine ⟨?_, ?_⟩
      · show (((((σ.set 2 none).set 1 none).set 1 (some (V.int q.1))).set 2 (some (V.int q.2))).set 2 none).set 1 none = (σ.set 2 none).set 1 none
        apply List.ext_getElem?
        intro k
        simp only [List.getElem?_set, List.length_set]
        by_cases c1 : 1 = k <;> by_cases c2 : 2 = k <;> simp [c1, c2]
      have hmc : q.1 ∈ (loseAll h ((h.casts.map (·.1)).take i)).casts.map (·.1) := loseAll_casts.mpr ⟨List.mem_of_getElem? hm, not_take cn hm⟩
      refine yes1 (iteT ?_)
      refine w_meth (o := (loseAll h ((h.casts.map (·.1)).take i)).loseO q.1) x' rfl (ev_var rfl) (ea_cons (ev_var (i := 1) rfl) ea_nil) rfl ⟨q.1, rfl, ok.loseAll _, rfl⟩ (Same.refl _) nn (fun d h' hd v H4 F4 x4 r4 f4 _ hv4 => ?_) (fun z hz H4 e4 => absurd hmc (loseO_err hz).1)
      obtain ⟨_, rfl, rfl⟩ := loseO_ok hd
      cases (show _ = _ from hv4)
      have hc4 : H4 c = some (.lst ((loseCounts h ((h.casts.map (·.1)).take i)).map V.int)) := r4 c _ hc' ncF'
      have ncF4 : c ∉ fp p F4 := fun m => by
        rcases f4 c m with z | z
        · exact ncF' z
        · rw [hc'] at z; cases z
      have hlen : (loseCounts h ((h.casts.map (·.1)).take i)).length ≤ i := by
        have aux : ∀ (ns : List Int) (h : HS), (loseCounts h ns).length = ns.length := by
          intro ns
          induction ns with
          | nil => intro h; rfl
          | cons m r ih => intro h; exact congrArg Nat.succ (ih _)
        rw [aux]
        exact List.length_take_le _ _
      have hic : i < h.casts.length := (List.getElem?_eq_some_iff.mp hq).1
      refine ⟨_, hc4, by rw [List.length_map]; exact Nat.lt_trans (show _ < 100000 by omega) (by decide), F4, ?_, ?_, ?_, ?_⟩
      · rw [List.take_succ, hm, Option.toList_some, loseAll_snoc]
        refine x4.frame (L := [c]) (fun z o hz nz => by rw [upd_ne (fun (q : z = c) => nz (by rw [q]; simp))]; exact hz) (fun z hz m => ncF4 (by rw [← List.mem_singleton.mp m]; exact hz)) fun z ws hz => by
          rw [upd_ne (ne_of hz hc4 (by intro q; cases q))]
          exact hz
      · rw [List.take_succ, hm, Option.toList_some, counts_snoc, upd_same, List.map_append]
        rfl
      · intro z o hz nz
        have nzc : z ≠ c := fun q => nz (by rw [q]; simp)
        have nzF : z ∉ fp p F' := fun m => by
          rcases fs z m with y | y
          · exact nz (by simp [y])
          · rw [hz] at y; cases y
        rw [upd_ne nzc]
        exact r4 z o (fr z o hz nz) nzF
      · intro z hz
        rcases f4 z hz with y | y
        · exact fs z y
        · by_cases m : z ∈ fp p F
          · exact .inl m
          · refine .inr ?_
            cases e5 : upd H2 c (.lst []) z with
            | none => rfl
            | some o =>
              by_cases zc : z = c
              · exact absurd hz (by rw [zc]; exact ncF4)
              · rw [fr z o e5 (by simp [zc, m])] at y
                cases y
    · rintro H' ⟨F', x', hc', fr, fs⟩
      have hvl : vs.length = (h.casts.map (·.1)).length := by rw [il.len, List.length_map, List.length_map]
      rw [hvl, List.take_length] at x' hc'
      refine ⟨c, _, rfl, SqL.of hc', k1 _ _ rfl _ H' F' x' ?_ ?_ rfl⟩
      · intro z o hz nz
        have hz2 := (e.trans e2) z o hz
        exact fr z o (eb _ _ hz2) fun m => by
          rcases List.mem_cons.mp m with y | y
          · rw [y, hc] at hz2; cases hz2
          · exact nz y
      · intro z hz
        rcases fs z hz with y | y
        · exact .inl y
        · exact .inr ((e.trans e2).free (eb.free y))
end Cs
set_option Elab.async false
set_option linter.all false
set_option maxRecDepth 100000
set_option maxHeartbeats 4000000
namespace Cs
open PySem PySem.Spec PyProof.Rows L2
/-! ### stores at the law's state -/
section
variable {K : PySem.W.Frag} {ds : List (Option D)} {H : Hp} {ta tb te tv tl : TE} {tt : TT} {tr : TA} {tz : TS} {E : Ends} {q : Addr} {G : SFoot} {s s' : LS} {X : XK} {j : Nat}
/-- state["rows"][n] = e, all lists stay -/
theorem go_srowK {n : Int} {r : LRow} (x : SAt H q G s) (hl : s.rows.length < 100000) (hv : EvD tv ds H r.d) (hd : EvD ta ds H (.obj G.rows)) (hk : EvD tb ds H (.int n))
    (k : ∀ H2, SAt H2 q G { s with rows := put s.rows n r } → Fr (sfp q G) H H2 → KeepL H H2 → Go tz ds H2 E) : Go (tSeq (sDPut ta tb tv) tz) ds H E := fun σ H1 e nn =>
  hv σ H1 e nn _ fun v H2 e2 hv' => hd σ H2 (e.trans e2) (nn.mono e2) _ fun y H3 e3 hy => hk σ H3 ((e.trans e2).trans e3) ((nn.mono e2).mono e3) _ fun z H4 e4 hz => by
    have ee := ((e.trans e2).trans e3).trans e4
    have x4 := x.mono ee
    obtain ⟨kvs, hkv, hi⟩ := x4.rw
    have fr : Fr (sfp q G) H4 (upd H4 G.rows (.dK (putK kvs (Sum.inl n) v))) := sup_fr (by simp [sfp])
    refine ⟨G.rows, _, hy, .inl ⟨kvs, Sum.inl n, hkv, hz, ?_, rfl⟩, ?_⟩
    · rw [hi.len, kds_len]
      exact Nat.lt_trans hl (by decide)
    · refine k _ (x4.st_rows hkv ?_) (Fr.ex_trans ee fr) (fun a vs q => by rw [upd_ne (ne_of (ee _ _ q) hkv (by intro z; cases z))]; exact ee _ _ q) σ _ (Same.refl _) ((((nn.mono e2).mono e3).mono e4).upd_dK hkv)
      rw [← kds_put]
      exact hi.put (hv'.mono (e3.trans e4))
/-- state["rows"].pop(n) -/
theorem go_spop {n : Int} (x : SAt H q G s) (hn : n ∈ s.keys) (hd : EvD ta ds H (.obj G.rows)) (hk : EvD tb ds H (.int n))
    (k : ∀ H2, SAt H2 q G { s with rows := drop s.rows n } → Fr (sfp q G) H H2 → KeepL H H2 → Go tz ds H2 E) : Go (tSeq (tDrop (tDPop1 ta tb)) tz) ds H E := fun σ H1 e nn =>
  hd σ H1 e nn _ fun y H3 e3 hy => by
    have x3 := x.mono (e.trans e3)
    refine ⟨G.rows, hy, x3.rw.at.isD, hk σ H3 (e.trans e3) (nn.mono e3) _ fun z H4 e4 hz => ?_⟩
    have ee := (e.trans e3).trans e4
    have x4 := x.mono ee
    obtain ⟨kvs, hkv, hi⟩ := x4.rw
    obtain ⟨r, hr⟩ := skeys_row hn
    obtain ⟨v, hv, _⟩ := hi.getS (k := Sum.inl n) (d := r.d) (by rw [kds_get, hr]; rfl)
    have fr : Fr (sfp q G) H4 (upd H4 G.rows (.dK (dropK kvs (Sum.inl n)))) := sup_fr (by simp [sfp])
    refine ⟨kvs, Sum.inl n, v, hkv, hz, hv, ?_⟩
    refine k _ (x4.st_rows hkv ?_) (Fr.ex_trans ee fr) (fun a vs q => by rw [upd_ne (ne_of (ee _ _ q) hkv (by intro z; cases z))]; exact ee _ _ q) σ _ (Same.refl _) (((nn.mono e3).mono e4).upd_dK hkv)
    rw [← kds_drop]
    exact hi.drop
/-- state["casts"] = [..] -/
theorem go_sCasts {ps : List (Int × Int)} (x : SAt H q G s) (hv : EvL tv ds H (ps.map pairD)) (hd : EvD ta ds H (.obj q))
    (k : ∀ H2 G', SAt H2 q G' { s with casts := ps } → Fr (sfp q G) H H2 → SFresh q H G G' → KeepL H H2 → Go tz ds H2 E) : Go (tSeq (sDPut ta (tC (.str "casts")) tv) tz) ds H E := fun σ H1 e nn =>
  hv σ H1 e nn _ fun l vs H2 hl e2 hv' il => hd σ H2 (e.trans e2) (nn.mono e2) _ fun y H3 e3 hy => by
    have ee := (e.trans e2).trans e3
    have x4 := x.mono ee
    obtain ⟨kvs, hkv, hi⟩ := x4.ob
    have fr : Fr (sfp q G) H3 (upd H3 q (.dK (putK kvs (Sum.inr "casts") (.ref l)))) := sup_fr (by simp [sfp])
    have h0 : H l = none := e.free hl
    refine ⟨q, _, hy, .inl ⟨kvs, Sum.inr "casts", hkv, rfl, by rw [hi.len]; show 7 < sizeLine; decide, rfl⟩, ?_⟩
    refine k _ { G with casts := l } ⟨⟨_, upd_same, ?_⟩, x4.rw.upd_other hkv x.n1.symm, Is.upd_dK hkv ⟨l, vs, rfl, e3 _ _ hv', il.mono e3⟩, x4.ti.upd_dK hkv, x.n1, fun w => ?_⟩ (Fr.ex_trans ee fr) (fun b hb => ?_) (fun a ws w => by rw [upd_ne (ne_of (ee _ _ w) hkv (by intro z; cases z))]; exact ee _ _ w) σ _ (Same.refl _) (((nn.mono e2).mono e3).upd_dK hkv)
    · have := DictIs.upd_dK (o := .dK (putK kvs (Sum.inr "casts") (.ref l))) hkv (hi.put (k := Sum.inr "casts") (d := .obj l) (v := .ref l) rfl)
      exact this
    · exact x.sfp_some (b := G.ties) (by simp [sfp]) (by rw [← (show l = G.ties from w)]; exact h0)
    · simp only [sfp, List.mem_cons, List.not_mem_nil, or_false] at hb
      rcases hb with rfl | rfl | rfl | rfl
      · exact .inl (by simp [sfp])
      · exact .inl (by simp [sfp])
      · exact .inr h0
      · exact .inl (by simp [sfp])
/-- state["ties"] = [..] -/
theorem go_sTies {ps : List (Int × Int)} (x : SAt H q G s) (hv : EvL tv ds H (ps.map pairD)) (hd : EvD ta ds H (.obj q))
    (k : ∀ H2 G', SAt H2 q G' { s with ties := ps } → Fr (sfp q G) H H2 → SFresh q H G G' → KeepL H H2 → Go tz ds H2 E) : Go (tSeq (sDPut ta (tC (.str "ties")) tv) tz) ds H E := fun σ H1 e nn =>
  hv σ H1 e nn _ fun l vs H2 hl e2 hv' il => hd σ H2 (e.trans e2) (nn.mono e2) _ fun y H3 e3 hy => by
    have ee := (e.trans e2).trans e3
    have x4 := x.mono ee
    obtain ⟨kvs, hkv, hi⟩ := x4.ob
    have fr : Fr (sfp q G) H3 (upd H3 q (.dK (putK kvs (Sum.inr "ties") (.ref l)))) := sup_fr (by simp [sfp])
    have h0 : H l = none := e.free hl
    refine ⟨q, _, hy, .inl ⟨kvs, Sum.inr "ties", hkv, rfl, by rw [hi.len]; show 7 < sizeLine; decide, rfl⟩, ?_⟩
    refine k _ { G with ties := l } ⟨⟨_, upd_same, ?_⟩, x4.rw.upd_other hkv x.n1.symm, x4.ca.upd_dK hkv, Is.upd_dK hkv ⟨l, vs, rfl, e3 _ _ hv', il.mono e3⟩, x.n1, fun w => ?_⟩ (Fr.ex_trans ee fr) (fun b hb => ?_) (fun a ws w => by rw [upd_ne (ne_of (ee _ _ w) hkv (by intro z; cases z))]; exact ee _ _ w) σ _ (Same.refl _) (((nn.mono e2).mono e3).upd_dK hkv)
    · have := DictIs.upd_dK (o := .dK (putK kvs (Sum.inr "ties") (.ref l))) hkv (hi.put (k := Sum.inr "ties") (d := .obj l) (v := .ref l) rfl)
      exact this
    · exact x.sfp_some (b := G.casts) (by simp [sfp]) (by rw [(show G.casts = l from w)]; exact h0)
    · simp only [sfp, List.mem_cons, List.not_mem_nil, or_false] at hb
      rcases hb with rfl | rfl | rfl | rfl
      · exact .inl (by simp [sfp])
      · exact .inl (by simp [sfp])
      · exact .inl (by simp [sfp])
      · exact .inr h0
theorem stD_pure (G : SFoot) (s : LS) : ∀ z ∈ stD G s, z.2.pure = true := fun z hz => by
  simp only [stD, List.mem_cons, List.not_mem_nil, or_false] at hz
  rcases hz with rfl | rfl | rfl | rfl | rfl | rfl | rfl <;> rfl
theorem SAt.st_casts (x : SAt H q G s) {ps : List (Int × Int)} {us vs : List V} (hu : H G.casts = some (.lst us)) (hv : IsL H (ps.map pairD) vs) : SAt (upd H G.casts (.lst vs)) q G { s with casts := ps } := by
  refine ⟨x.ob.upd_lst' hu (stD_pure _ _), x.rw.upd_lst' hu (kds_pure LRow.pure _), ⟨_, vs, rfl, upd_same, hv.upd_lst hu (pairs_pureL ps)⟩, ?_, x.n1, x.n2⟩
  obtain ⟨ws, e, il⟩ := x.ties_
  exact ⟨_, ws, rfl, by rw [upd_ne x.n2.symm]; exact e, il.upd_lst hu (pairs_pureL _)⟩
theorem SAt.st_ties (x : SAt H q G s) {ps : List (Int × Int)} {us vs : List V} (hu : H G.ties = some (.lst us)) (hv : IsL H (ps.map pairD) vs) : SAt (upd H G.ties (.lst vs)) q G { s with ties := ps } := by
  refine ⟨x.ob.upd_lst' hu (stD_pure _ _), x.rw.upd_lst' hu (kds_pure LRow.pure _), ?_, ⟨_, vs, rfl, upd_same, hv.upd_lst hu (pairs_pureL ps)⟩, x.n1, x.n2⟩
  obtain ⟨ws, e, il⟩ := x.casts_
  exact ⟨_, ws, rfl, by rw [upd_ne x.n2]; exact e, il.upd_lst hu (pairs_pureL _)⟩
/-- state["casts"].append(z) -/
theorem go_sAppC {z : Int × Int} (x : SAt H q G s) (hl : s.casts.length < 100000) (ho : EvD ta ds H (.obj G.casts)) (he : EvD te ds H (pairD z)) (pe : pureE ds = true)
    (k : ∀ H2, SAt H2 q G { s with casts := s.casts ++ [z] } → Fr (sfp q G) H H2 → Go tz ds H2 E) : Go (tSeq (tDrop (tBM K "list" rAppend ta (tCons te tNil))) tz) ds H E := fun σ H1 e n =>
  ho σ H1 e n _ fun y H2 e2 hy => by
    cases (show _ = _ from hy)
    obtain ⟨us, hus, ils⟩ := (x.mono (e.trans e2)).casts_
    refine ⟨.inl ⟨rfl, us, SqL.of hus⟩, he σ H2 (e.trans e2) (n.mono e2) _ fun u H3 e3 hu => ?_⟩
    have ee := (e.trans e2).trans e3
    have x3 := x.mono ee
    have fr : Fr (sfp q G) H3 (upd H3 G.casts (.lst (us ++ [u]))) := sup_fr (by simp [sfp])
    refine ⟨G.casts, us, u, rfl, rfl, e3 _ _ hus, Nat.lt_trans (by rw [ils.len, List.length_map]; exact hl) (by decide), ?_⟩
    refine k _ (x3.st_casts (e3 _ _ hus) ?_) (Fr.ex_trans ee fr) σ _ (Same.refl _) (x3.keepE fr pe ((n.mono e2).mono e3))
    rw [List.map_append]
    exact (ils.mono e3).snoc hu
theorem go_sAppT {z : Int × Int} (x : SAt H q G s) (hl : s.ties.length < 100000) (ho : EvD ta ds H (.obj G.ties)) (he : EvD te ds H (pairD z)) (pe : pureE ds = true)
    (k : ∀ H2, SAt H2 q G { s with ties := s.ties ++ [z] } → Fr (sfp q G) H H2 → Go tz ds H2 E) : Go (tSeq (tDrop (tBM K "list" rAppend ta (tCons te tNil))) tz) ds H E := fun σ H1 e n =>
  ho σ H1 e n _ fun y H2 e2 hy => by
    cases (show _ = _ from hy)
    obtain ⟨us, hus, ils⟩ := (x.mono (e.trans e2)).ties_
    refine ⟨.inl ⟨rfl, us, SqL.of hus⟩, he σ H2 (e.trans e2) (n.mono e2) _ fun u H3 e3 hu => ?_⟩
    have ee := (e.trans e2).trans e3
    have x3 := x.mono ee
    have fr : Fr (sfp q G) H3 (upd H3 G.ties (.lst (us ++ [u]))) := sup_fr (by simp [sfp])
    refine ⟨G.ties, us, u, rfl, rfl, e3 _ _ hus, Nat.lt_trans (by rw [ils.len, List.length_map]; exact hl) (by decide), ?_⟩
    refine k _ (x3.st_ties (e3 _ _ hus) ?_) (Fr.ex_trans ee fr) σ _ (Same.refl _) (x3.keepE fr pe ((n.mono e2).mono e3))
    rw [List.map_append]
    exact (ils.mono e3).snoc hu
/-- state["ties"].remove(z) -/
theorem go_sRemT {z : Int × Int} (x : SAt H q G s) (hq : z ∈ s.ties) (ho : EvD ta ds H (.obj G.ties)) (he : EvD te ds H (pairD z)) (pe : pureE ds = true)
    (k : ∀ H2, SAt H2 q G { s with ties := s.ties.erase z } → Fr (sfp q G) H H2 → Go tz ds H2 E) : Go (tSeq (tDrop (tBM K "list" (rRemD K) ta (tCons te tNil))) tz) ds H E := fun σ H1 e n =>
  ho σ H1 e n _ fun y H2 e2 hy => by
    cases (show _ = _ from hy)
    obtain ⟨us, hus, ils⟩ := (x.mono (e.trans e2)).ties_
    refine ⟨.inl ⟨rfl, us, SqL.of hus⟩, he σ H2 (e.trans e2) (n.mono e2) _ fun u H3 e3 hu => ?_⟩
    have ee := (e.trans e2).trans e3
    have x3 := x.mono ee
    obtain ⟨j, hj, hje⟩ := place_pairs hq
    have fr : Fr (sfp q G) H3 (upd H3 G.ties (.lst (us.eraseIdx j))) := sup_fr (by simp [sfp])
    refine ⟨G.ties, u, us, pyP z, s.ties.map pyP, j, rfl, rfl, e3 _ _ hus, dp_pairs (ils.mono e3), dp_pair hu, pyP_plainA _, pyP_plain z, by rw [pyP_depth]; decide, hj, ?_⟩
    refine k _ (x3.st_ties (e3 _ _ hus) ?_) (Fr.ex_trans ee fr) σ _ (Same.refl _) (x3.keepE fr pe ((n.mono e2).mono e3))
    rw [← hje]
    exact isL_erase j (ils.mono e3)
/-- over range(lo, hi) -/
theorem ev_lcR2 {lo hi : Int} (g : Nat → Option D) (hl : EvA tr ds H [.int lo, .int hi]) (h0 : 0 ≤ lo) (h1 : lo ≤ hi) (h2 : hi ≤ 100000) (ht : ∀ i : Nat, lo + i < hi → EvB tt (ds.set j (some (.int (lo + (i : Int))))) H (g i).isSome)
    (he : ∀ i : Nat, lo + i < hi → ∀ y, g i = some y → EvD te (ds.set j (some (.int (lo + (i : Int))))) H y ∧ y.pure = true) : EvD (tLc (iRng2 tr) (gName j) tt te [j]) ds H (.lst ((List.range (hi - lo).toNat).filterMap g)) := fun σ H0 e nn Q q =>
  hl σ H0 e nn _ fun vs H1 e1 hv => by
    obtain ⟨v, r, rfl, hv, v2, r2, rfl, hv2, hr⟩ := hv
    cases (show _ = _ from hr)
    cases (show _ = _ from hv)
    cases (show _ = _ from hv2)
    refine ⟨lo, hi, rfl, by omega, fun p hp => lc_range (lo := lo) (n := (hi - lo).toNat) (fun i H' => Acc H1 p ((List.range i).filterMap g) H') (Acc.zero hp) (fun i H' hi' A => ?_) fun H' A => ?_⟩
    · refine ⟨by simp [wipe], ?_⟩
      have hs : (List.range (i + 1)).filterMap g = (List.range i).filterMap g ++ (g i).toList := by
        rw [List.range_succ, List.filterMap_append]
        cases e : g i <;> simp [e]
      rw [hs]
      refine lc_turn (ds2 := ds.set j (some (.int (lo + (i : Int))))) (H0 := H) (e.trans e1) A ?_ ?_ (ht i (by omega)) (he i (by omega))
      · simp only [wipe, List.set_set]
        exact ((nn.mono e1).mono A.2.1).set (d := .int (lo + (i : Int))) (v := .int (lo + (i : Int))) rfl j
      · have := filterMap_len g (List.range i)
        rw [List.length_range] at this
        omega
    · obtain ⟨_, ex, acc, c, d, _⟩ := A
      exact q _ H' (e1.trans ex) ⟨p, acc, rfl, c, d⟩
theorem ev_lcLS {ns : List Str} (g : Str → Option D) (hl : EvD tl ds H (.lst (ns.map D.str))) (hz : ns.length < 1000000) (ht : ∀ n ∈ ns, EvB tt (ds.set j (some (.str n))) H (g n).isSome)
    (he : ∀ n ∈ ns, ∀ y, g n = some y → EvD te (ds.set j (some (.str n))) H y ∧ y.pure = true) : EvD (tLc (iList K tl) (gName j) tt te [j]) ds H (.lst (ns.filterMap g)) := by
  have e : (ns.map D.str).filterMap (fun d => match d with | .str n => g n | _ => none) = ns.filterMap g := by
    rw [List.filterMap_map]
    rfl
  rw [← e]
  refine ev_lcL _ hl (by rw [List.length_map]; exact hz) (fun k hk => ?_) (fun k hk => ?_)
  · obtain ⟨n, hn, rfl⟩ := List.mem_map.mp hk
    exact ht n hn
  · obtain ⟨n, hn, rfl⟩ := List.mem_map.mp hk
    exact he n hn
end
/-! ### _law_free -/
def sp_law_free (K : PySem.W.Frag) : Sp := rsp fun H as d => ∃ q G h par name, as = [.obj q, oI par, .str name] ∧ SAt H q G (HS.abs h) ∧ h.rows.length < 64 ∧ name.length ≤ 1000 ∧ d = .str (freeV name (h.namesIn par none))
theorem free_head (name : Str) {taken : List Str} (hl : taken.length < 70) : ((name :: candL name (taken.length + 1)).filter fun x => !decide (x ∈ taken))[0]? = some (freeV name taken) := by
  have e : ((name :: candL name (taken.length + 1)).filter fun x => !decide (x ∈ taken))[0]? = (name :: candL name (taken.length + 1)).find? fun x => decide (x ∉ taken) := by
    rw [← List.head?_eq_getElem?, List.head?_filter]
    congr 1
    funext x
    simp
  rw [e]
  unfold freeV
  cases c : (name :: candL name (taken.length + 1)).find? fun x => decide (x ∉ taken) with
  | some z => rfl
  | none =>
    exfalso
    rw [List.find?_eq_none] at c
    obtain ⟨i, hi, hf⟩ := cand_free name hl
    refine c (cand name (i + 2)) ?_ (by simpa using hf)
    refine List.mem_cons_of_mem _ (List.mem_map.mpr ⟨i, ?_, rfl⟩)
    rw [List.mem_range]
    omega
theorem ok_law_free {P : Program} {w : World} {K : PySem.W.Frag} {mg : Str → Option Value} {base : Heap} (S : Says K mg) : Fk P w K mg base 3 (He.fAd K ("_law_free", none)) ["state", "parent", "name"] (sp_law_free K) := by
  have G_law_names := ok_law_names (P := P) (w := w) (base := base) S
  refine mk_r S.df_law_free sc_law_free ?_ (by decide) fun cdv A outer s0 H H0 E as d bd hp => ?_
  · rintro H as d ⟨q, G, h, par, name, rfl, _⟩
    rfl
  · obtain ⟨q, G, h, par, name, rfl, x, hl, hn, rfl⟩ := hp
    obtain ⟨hr, tk, px, hu, hu65⟩ := bd
    refine ⟨_, (pss_cons (ps_set (i := 3) sc_law_free.nd rfl (Or.inr rfl) (pe_cf G_law_names (hr.mono (by decide)) (by rfl) S.glo__law_names px (pa_cons (pv 0) (pa_cons (pv 1) (pa_cons (pe_non) pa_nil)))))
      (pss_cons (ps_set (i := 4) sc_law_free.nd rfl (Or.inl rfl) (pe_op op_cat (pe_lst (pa_cons (pv 2) pa_nil)) (pe_lc (own := [("number", 5)]) (g := (gName 5)) (tt := tYes) (te := (tOp rAddS (tVar 2) (tCB rStrI (tCons (tVar 5) tNil)))) rfl sc_law_free.nd (pi_range2 (by rfl) S.free_range (pa_cons (pe_int) (pa_cons (pe_op op_add (pe_callB call_len_seq (by rfl) S.free_len (by decide +kernel) (pa_cons (pv 3) pa_nil)) (pe_int)) pa_nil))) (blkOk_by (N := ["state", "parent", "name", "taken", "some", "number", "one"]) (sc := defScope s_law_free) (by decide +kernel)) (fun _ _ _ _ _ => (pg_name (i := 5) sc_law_free.nd rfl (Or.inl rfl))) (fun _ _ _ _ _ => pts_nil) (fun _ _ _ _ _ => (pe_op op_add_str (pv 2) (pe_callTy call_str_int (by rfl) S.free_str (by decide +kernel) (pa_cons (pv 5) pa_nil)))))))
      (pss_one (ps_ret (pe_ix ix_list (pe_lc (own := [("one", 6)]) (g := (gName 6)) (tt := (tTest (tOp (rIn K true) (tVar 6) (tVar 3)))) (te := (tVar 6)) rfl sc_law_free.nd (pi_list (pv 4)) (blkOk_by (N := ["state", "parent", "name", "taken", "some", "number", "one"]) (sc := defScope s_law_free) (by decide +kernel)) (fun _ _ _ _ _ => (pg_name (i := 6) sc_law_free.nd rfl (Or.inl rfl))) (fun _ _ _ _ _ => (pts_one (pt_cmpR op_notIn_seq (pv 6) (pv 3) rfl))) (fun _ _ _ _ _ => (pv 6))) (pe_int) (fun _ _ => rfl)))))), ?_⟩
    have hal : h.abs.rows.length < 64 := by rw [abs_len]; exact hl
    have nl := names_len h par none
    refine ret_asg (x := .lst ((h.namesIn par none).map D.str)) (ev_is (s_names (but := none) x hal (ev_var rfl) (ev_var rfl) ev_non) (by rw [abs_names])) ?_
    generalize htk : h.namesIn par none = taken at nl ⊢
    refine ret_asg (x := .lst ((name :: candL name (taken.length + 1)).map D.str)) ?_ ?_
    · have hlc : EvD (tLc (iRng2 (tCons (tC (.int 2)) (tCons (tOp rAddI (tCB (rLenSq K) (tCons (tVar 3) tNil)) (tC (.int 3))) tNil))) (gName 5) tYes (tOp rAddS (tVar 2) (tCB rStrI (tCons (tVar 5) tNil))) [5]) [some (.obj q), some (oI par), some (.str name), some (.lst (taken.map D.str)), none, none, none] H (.lst ((candL name (taken.length + 1)).map D.str)) := by
        have ee : (candL name (taken.length + 1)).map D.str = (List.range (((taken.length : Int) + 3) - 2).toNat).filterMap fun (i : Nat) => some (D.str (cand name (i + 2))) := by
          unfold candL
          rw [List.map_map, List.filterMap_eq_map', show (((taken.length : Int) + 3) - 2).toNat = taken.length + 1 by omega]
          rfl
        rw [ee]
        refine ev_lcR2 _ (ea_cons ev_int (ea_cons (ev_op (ev_is (ev_cb (ea_cons (ev_var rfl) ea_nil) cl_lenL) (by rw [List.length_map])) ev_int op_addI) ea_nil)) (by decide) (by omega) (by omega) (fun i hi => eb_yes) (fun i hi y hy => ?_)
        cases hy
        exact ⟨ev_cand hn (by omega) (by omega) (ev_var rfl) (ev_is (ev_var rfl) (by congr 1; omega)), rfl⟩
      refine ev_is (el_cat (ev_lst (ea_cons (ev_var rfl) ea_nil) (by simp)) hlc (by simp [candL]; omega)).d rfl
    · refine ret_ret (ev_op (b := .int 0) (a := .lst (((name :: candL name (taken.length + 1)).filter fun x => !decide (x ∈ taken)).map D.str)) ?_ ev_int (op_ixL (i := 0) ?_))
      · rw [← filterMap_if]
        refine ev_lcLS _ (ev_var rfl) (by simp [candL]; omega) (fun z hz => ?_) (fun z hz y hy => ?_)
        · refine eb_is (eb_test (ev_op (ev_var rfl) (ev_var rfl) (op_inL rfl (strs_flat _)))) ?_
          rw [strs_val, isSome_if]
          show (!inV (.str z) _) = _
          rw [inV_strs]
        · split at hy
          · cases hy
            exact ⟨ev_var rfl, rfl⟩
          · cases hy
      · rw [List.getElem?_map, free_head name (by omega)]
        rfl
theorem s_free {K : PySem.W.Frag} {H : Hp} {q : Addr} {G : SFoot} {h : HS} {par : Option Int} {name : Str} {ds : List (Option D)} {t1 t2 t3 : TE} {X : XK} (x : SAt H q G h.abs) (hl : h.rows.length < 64) (hn : name.length ≤ 1000) (h1 : EvD t1 ds H (.obj q)) (h2 : EvD t2 ds H (oI par)) (h3 : EvD t3 ds H (.str name)) :
    EvD (tCall (sp_law_free K) [] X (tCons t1 (tCons t2 (tCons t3 tNil)))) ds H (.str (freeV name (h.namesIn par none))) := ev_call (ea_cons h1 (ea_cons h2 (ea_cons h3 ea_nil))) (rsp_pr fun H' e => ⟨q, G, h, par, name, rfl, x.mono e, hl, hn, rfl⟩)
end Cs
set_option Elab.async false
set_option linter.all false
set_option maxRecDepth 100000
set_option maxHeartbeats 4000000
namespace Cs
open PySem PySem.Spec PyProof.Rows L2
/-! ### what is told of a deed -/
def Out.told (h : HS) : Out → D × HS
  | .ok d h' => (d, h')
  | .err x => (.str (wordOf x), h)
def toS (r : D × HS) : D × LS := (r.1, r.2.abs)
theorem w_NoThing : wordOf "NoThing" = "no thing" := by decide +kernel
theorem w_NoBox : wordOf "NoBox" = "no box" := by decide +kernel
theorem w_NoCast : wordOf "NoCast" = "no cast" := by decide +kernel
theorem w_Same : wordOf "Same" = "same" := by decide +kernel
theorem w_NoTie : wordOf "NoTie" = "no tie" := by decide +kernel
/-! ### _law_lose -/
def HS.goneL (h : HS) (n : Int) : List Int := h.keys.filter fun k => decide (get h.shelved k = some n)
theorem mem_goneL {h : HS} (w : WF h) {n k : Int} : k ∈ h.goneL n ↔ k ∈ h.bundle n := by
  unfold HS.goneL
  rw [List.mem_filter, mem_bundle]
  exact ⟨fun q => of_decide_eq_true q.2, fun q => ⟨w.sub k (get_key q), decide_eq_true q⟩⟩
theorem lose_abs {h : HS} (o : OkH h) (n : Int) : (h.loseH n).abs = { h.abs with rows := without h.abs.rows (h.goneL n), casts := h.casts.filter fun q => decide (q.1 ≠ n), ties := h.pairs.filter fun q => !decide (q.1 ∈ h.goneL n) && !decide (q.2 ∈ h.goneL n) } := by
  have w := o.wf
  have e1 : (h.loseH n).abs.rows = without h.abs.rows (h.goneL n) := by
    show (without h.rows (h.bundle n)).map (fun p => (p.1, (⟨p.2, get (without h.shelved (h.bundle n)) p.1⟩ : LRow))) = without (h.rows.map fun p => (p.1, (⟨p.2, get h.shelved p.1⟩ : LRow))) (h.goneL n)
    unfold without
    rw [List.filter_map]
    have e2 : (h.rows.filter ((fun q => decide (q.1 ∉ h.goneL n)) ∘ fun p => (p.1, (⟨p.2, get h.shelved p.1⟩ : LRow)))) = h.rows.filter fun q => decide (q.1 ∉ h.bundle n) := List.filter_congr fun q hq => by
      show decide (q.1 ∉ h.goneL n) = decide (q.1 ∉ h.bundle n)
      have := mem_goneL w (n := n) (k := q.1)
      exact decide_eq_decide.mpr (not_congr this)
    rw [e2]
    refine List.map_congr_left fun q hq => ?_
    have hq' : q.1 ∉ h.bundle n := by simpa using (List.mem_filter.mp hq).2
    have e3 : get (h.shelved.filter fun q => decide (q.1 ∉ h.bundle n)) q.1 = get h.shelved q.1 := by
      have := get_without (l := h.shelved) (ks := h.bundle n) (k := q.1)
      rw [if_neg hq'] at this
      exact this
    rw [e3]
  have e4 : (h.loseH n).abs.ties = h.pairs.filter fun q => !decide (q.1 ∈ h.goneL n) && !decide (q.2 ∈ h.goneL n) := by
    show (h.pairs.filter fun q => (get (without h.rows (h.bundle n)) q.1).isSome && (get (without h.rows (h.bundle n)) q.2).isSome) = _
    refine List.filter_congr fun q hq => ?_
    have pe : q.1 ∈ h.keys ∧ q.2 ∈ h.keys := let ⟨_, i, _⟩ := o; i.pe q hq
    have aux : ∀ k ∈ h.keys, (get (without h.rows (h.bundle n)) k).isSome = !decide (k ∈ h.goneL n) := fun k hk => by
      obtain ⟨r, hr⟩ := keys_row hk
      rw [get_without]
      by_cases c : k ∈ h.bundle n
      · rw [if_pos c, decide_eq_true ((mem_goneL w).mpr c)]
        rfl
      · rw [if_neg c, hr, decide_eq_false (fun z => c ((mem_goneL w).mp z))]
        rfl
    rw [aux _ pe.1, aux _ pe.2]
  show LS.mk _ _ (h.loseH n).abs.rows _ (h.loseH n).abs.ties _ _ = _
  rw [e1, e4]
  rfl
def sp_law_lose (K : PySem.W.Frag) : Sp := swsp K fun s as d s' => ∃ h n, s = HS.abs h ∧ OkH h ∧ as = [.int n] ∧ d = .int (h.bundle n).length ∧ s' = (h.loseH n).abs
theorem oMem_neg (n : Int) (ks : List Int) : (!inV (D.int n).val (ks.map V.int)) = !decide (n ∈ ks) := by
  show (!inV (oI (some n)).val (ks.map V.int)) = _
  rw [inV_ints]
  rfl
theorem ok_law_lose {P : Program} {w : World} {K : PySem.W.Frag} {mg : Str → Option Value} {base : Heap} (S : Says K mg) : Fk P w K mg base 1 (He.fAd K ("_law_lose", none)) ["state", "number"] (sp_law_lose K) := by
  refine mk_s S.df_law_lose sc_law_lose ?_ (by decide) fun cdv A outer sh H H0 Q E q G s as d s' bd pa x hp k => ?_
  · rintro s as d s' ⟨h, n, _, _, rfl, _⟩
    rfl
  · obtain ⟨h, n, rfl, ok, rfl, rfl, rfl⟩ := hp
    obtain ⟨hr, tk, px, hu, hu65⟩ := bd
    refine ⟨_, (pss_cons (ps_set (i := 3) sc_law_lose.nd rfl (Or.inr rfl) (pe_lock (pe_lc (own := [("one", 2)]) (g := (gName 2)) (tt := (tTest (tOp rEq (tOp (rIxT K) (tDGet (tDGet (tVar 0) (tC (.str "rows"))) (tVar 2)) (tC (.int 3))) (tVar 1)))) (te := (tVar 2)) rfl sc_law_lose.nd (pi_keys (pe_dget hu (pv 0) (pe_str) (fun _ _ => rfl))) (blkOk_by (N := ["state", "number", "one", "gone", "row", "pair"]) (sc := defScope s_law_lose) (by decide +kernel)) (fun _ _ _ _ _ => (pg_name (i := 2) sc_law_lose.nd rfl (Or.inl rfl))) (fun _ _ _ _ _ => (pts_one (pt_cmpR op_eq (pe_ix ix_tup (pe_dget hu (pe_dget hu (pv 0) (pe_str) (fun _ _ => rfl)) (pv 2) (fun _ _ => rfl)) (pe_int) (fun _ _ => rfl)) (pv 1) (nomark _)))) (fun _ _ _ _ _ => (pv 2)))))
      (pss_cons (ps_for (passes_of rfl) rfl (pi_list (pv 3)) (pg_name (i := 2) sc_law_lose.nd rfl (Or.inl rfl)) (pss_one (ps_expr (pe_dpop1 (pe_dget hu (pv 0) (pe_str) (fun _ _ => rfl)) (pv 2) ⟨rfl, rfl, rfl, rfl⟩))))
      (pss_cons (ps_dput hu (pv 0) (pe_str) (pe_lc (own := [("row", 4)]) (g := (gName 4)) (tt := (tTest (tOp rNe (tOp (rIxT K) (tVar 4) (tC (.int 0))) (tVar 1)))) (te := (tVar 4)) rfl sc_law_lose.nd (pi_list (pe_dget hu (pv 0) (pe_str) (fun _ _ => rfl))) (blkOk_by (N := ["state", "number", "one", "gone", "row", "pair"]) (sc := defScope s_law_lose) (by decide +kernel)) (fun _ _ _ _ _ => (pg_name (i := 4) sc_law_lose.nd rfl (Or.inl rfl))) (fun _ _ _ _ _ => (pts_one (pt_cmpR op_ne (pe_ix ix_tup (pv 4) (pe_int) (fun _ _ => rfl)) (pv 1) (nomark _)))) (fun _ _ _ _ _ => (pv 4))) rfl)
      (pss_cons (ps_dput hu (pv 0) (pe_str) (pe_lc (own := [("pair", 5)]) (g := (gName 5)) (tt := (tAnd (tTest (tOp (rIn K true) (tOp (rIxT K) (tVar 5) (tC (.int 0))) (tVar 3))) (tTest (tOp (rIn K true) (tOp (rIxT K) (tVar 5) (tC (.int 1))) (tVar 3))))) (te := (tVar 5)) rfl sc_law_lose.nd (pi_list (pe_dget hu (pv 0) (pe_str) (fun _ _ => rfl))) (blkOk_by (N := ["state", "number", "one", "gone", "row", "pair"]) (sc := defScope s_law_lose) (by decide +kernel)) (fun _ _ _ _ _ => (pg_name (i := 5) sc_law_lose.nd rfl (Or.inl rfl))) (fun _ _ _ _ _ => (pts_one (PW.pt (pw_and (pt_cmpR op_notIn_seq (pe_ix ix_tup (pv 5) (pe_int) (fun _ _ => rfl)) (pv 3) rfl) (pw_and1 (pt_cmpR op_notIn_seq (pe_ix ix_tup (pv 5) (pe_int) (fun _ _ => rfl)) (pv 3) rfl)))))) (fun _ _ _ _ _ => (pv 5))) rfl)
      (pss_one (ps_ret (pe_callB call_len_seq (by rfl) S.free_len (by decide +kernel) (pa_cons (pv 3) pa_nil)))))))), ?_⟩
    have w := ok.wf
    have hcl := w.cl
    have hpl := w.pl
    obtain ⟨kvs, hk, hi⟩ := id x.rw
    have hks : kvs.map (·.1) = h.keys.map Sum.inl := by rw [hi.keys, kds_keys]; exact congrArg _ (abs_keys h)
    have hkl : h.keys.length < 64 := by unfold HS.keys; rw [List.length_map]; exact w.rl
    have gnd : (h.goneL n).Nodup := w.kn.filter _
    refine go_asg (x := .lst ((h.goneL n).map D.int)) (ev_lock hk fun od => ?_) ?_
    · have xl := SRd.lock (od := od) hk x.rd
      unfold HS.goneL
      rw [← filterMap_if]
      refine ev_lcKI upd_same hks _ (s_rows xl (ev_var rfl)) (by omega) (fun k hk' => ?_) (fun k hk' y hy => ?_)
      · obtain ⟨r, hr⟩ := keys_row hk'
        have hr2 : get h.abs.rows k = some ⟨r, get h.shelved k⟩ := by rw [abs_get, hr]; rfl
        refine eb_is (eb_test (ev_op (s_mark xl (ev_var rfl) (ev_var rfl) hr2) (ev_var rfl) (op_eqF (oI_flat _) rfl (oI_scal _ (some n))))) ?_
        rw [isSome_if, show (D.int n).val = (oI (some n)).val from rfl, oI_val]
      · split at hy
        · cases hy
          exact ⟨ev_var rfl, rfl⟩
        · cases hy
    refine go_forK (ι := Unit) (ns := h.goneL n) (ev_var rfl) (fun i _ H' => SAt H' q G { h.abs with rows := without h.abs.rows ((h.goneL n).take i) } ∧ Fr (sfp q G) H H') (fun _ => [some (.obj q), some (.int n), none, some (.lst ((h.goneL n).map D.int)), none, none]) () rfl (fun H' e => ⟨by rw [List.take_zero, without_nil]; exact x.mono e, Fr.of_ex e⟩) (fun i m _ H1 hm pm M hM => ?_) (fun _ H1 pm => ?_)
    · obtain ⟨x1, r1⟩ := pm
      have hmk : m ∈ (without h.abs.rows ((h.goneL n).take i)).map (·.1) := without_keys.mpr ⟨by rw [show h.abs.rows.map (·.1) = h.keys from abs_keys h]; exact (List.mem_filter.mp (List.mem_of_getElem? hm)).1, not_take gnd hm⟩
      refine go_last (go_spop (n := m) x1 hmk (s_rows x1.rd (ev_var rfl)) (ev_var rfl) fun H2 x2 r2 kl => ?_)
      refine go_next fun σ H3 e3 n3 => hM () σ H3 ⟨?_, (Fr.strans r1 SFresh.refl r2).trans_ex e3⟩ (fun a vs q => e3 _ _ (kl a vs q)) (n3.forget 2)
      rw [List.take_succ, hm, Option.toList_some, without_snoc]
      exact x2.mono e3
    · obtain ⟨x1, r1⟩ := pm
      rw [List.take_length] at x1
      refine go_sCasts (ps := h.casts.filter fun q => decide (q.1 ≠ n)) x1 (el_lcF _ (ev_is (s_casts x1.rd (ev_var rfl)) rfl) (by show h.casts.length < _; omega) (fun z hz => ?_) (by simp)) (ev_var rfl) fun H2 G2 x2 r2 f2 kl2 => ?_
      · refine eb_is (eb_test (ev_op (op_fst (ev_var rfl)) (ev_var rfl) (op_neF rfl rfl rfl))) ?_
        rw [dec_int_val]
        by_cases c : z.1 = n <;> simp [c]
      refine go_sTies (ps := h.pairs.filter fun q => !decide (q.1 ∈ h.goneL n) && !decide (q.2 ∈ h.goneL n)) x2 (el_lcF _ (ev_is (s_ties x2.rd (ev_var rfl)) rfl) (by show h.pairs.length < _; omega) (fun z hz => ?_) (by simp)) (ev_var rfl) fun H3 G3 x3 r3 f3 kl3 => ?_
      · refine eb_and (eb_is (eb_test (ev_op (op_fst (ev_var rfl)) (ev_var rfl) (op_inL rfl (ints_flat _)))) ?_) fun _ => eb_is (eb_test (ev_op (op_snd (ev_var rfl)) (ev_var rfl) (op_inL rfl (ints_flat _)))) ?_
        · rw [ints_val]
          exact oMem_neg _ _
        · rw [ints_val]
          exact oMem_neg _ _
      refine go_ret (ev_is (ev_cb (ea_cons (ev_var rfl) ea_nil) cl_lenL) (by rw [List.length_map]; exact congrArg (fun m : Nat => D.int m) (bundle_len w n))) fun v H4 e4 hv => k v H4 G3 ?_ ?_ ?_ hv
      · rw [lose_abs ok]
        exact x3.mono e4
      · exact (Fr.strans r1 SFresh.refl (Fr.strans r2 f2 r3)).trans_ex e4
      · exact SFresh.refl.trans r1 (f2.trans r2 f3)
/-! ### _law_tie -/
theorem pw_eq (w v : Str) {b : Bool} (h : decide (V.str w = V.str v) = b) : decide ((D.str w).val = (D.str v).val) = b := h
def sp_law_tie (K : PySem.W.Frag) : Sp := swsp K fun s as d s' => ∃ h a b, s = HS.abs h ∧ OkH h ∧ ((as = [.str "tie", pairD (a, b)] ∧ (d, s') = toS ((h.tieO a b).told h)) ∨ (as = [.str "untie", pairD (a, b)] ∧ (d, s') = toS ((h.untieO a b).told h)))
theorem ok_law_tie {P : Program} {w : World} {K : PySem.W.Frag} {mg : Str → Option Value} {base : Heap} (S : Says K mg) : Fk P w K mg base 2 (He.fAd K ("_law_tie", none)) ["state", "word", "rest"] (sp_law_tie K) := by
  have G_law_there := ok_law_there (P := P) (w := w) (base := base) S
  refine mk_s S.df_law_tie sc_law_tie ?_ (by decide) fun cdv A outer sh H H0 Q E q G s as d s' bd pa x hp k => ?_
  · rintro s as d s' ⟨h, a, b, _, _, ⟨rfl, _⟩ | ⟨rfl, _⟩⟩ <;> rfl
  · obtain ⟨h, a, b, rfl, ok, ⟨rfl, hres⟩ | ⟨rfl, hres⟩⟩ := hp
    · obtain ⟨hr, tk, px, hu, hu65⟩ := bd
      refine ⟨_, (pss_cons (ps_if (PW.pt (pw_or (pt_not (pt_val (pe_cf G_law_there (hr.mono (by decide)) (by rfl) S.glo__law_there px (pa_cons (pv 0) (pa_cons (pe_ix ix_tup (pv 2) (pe_int) (fun _ _ => rfl)) pa_nil))))) (pw_or1 (pt_not (pt_val (pe_cf G_law_there (hr.mono (by decide)) (by rfl) S.glo__law_there px (pa_cons (pv 0) (pa_cons (pe_ix ix_tup (pv 2) (pe_int) (fun _ _ => rfl)) pa_nil)))))))) (pss_one (ps_ret (pe_str))) pss_nil)
      (pss_cons (ps_if (PW.pt (pw_and (pt_cmpR op_eq (pv 1) (pe_str) (nomark _)) (pw_and1 (pt_cmpR op_eq (pe_ix ix_tup (pv 2) (pe_int) (fun _ _ => rfl)) (pe_ix ix_tup (pv 2) (pe_int) (fun _ _ => rfl)) (nomark _))))) (pss_one (ps_ret (pe_str))) pss_nil)
      (pss_cons (ps_if (PW.pt (pw_and (pt_cmpR op_eq (pv 1) (pe_str) (nomark _)) (pw_and1 (pt_cmpR (op_notInD hu65) (pv 2) (pe_dget hu (pv 0) (pe_str) (fun _ _ => rfl)) rfl)))) (pss_one (ps_ret (pe_str))) pss_nil)
      (pss_cons (ps_if (pt_cmpR op_eq (pv 1) (pe_str) (nomark _)) (pss_one (ps_expr (pe_bm PySem.F.plainAttrs_list PySem.F.slot_list_remove PySem.F.type_list_remove (mt_removeD hu65) (pe_dget hu (pv 0) (pe_str) (fun _ _ => rfl)) (pa_cons (pv 2) pa_nil)))) (pss_one (ps_if (pt_cmpR (op_notInD hu65) (pv 2) (pe_dget hu (pv 0) (pe_str) (fun _ _ => rfl)) rfl) (pss_one (ps_expr (pe_bm PySem.F.plainAttrs_list PySem.F.slot_list_append PySem.F.type_list_append mt_append (pe_dget hu (pv 0) (pe_str) (fun _ _ => rfl)) (pa_cons (pv 2) pa_nil)))) pss_nil)))
      (pss_one (ps_ret (pe_non))))))), ?_⟩
      have hpl := ok.wf.pl
      refine go_when (b := !h.there a || !h.there b) (eb_or (eb_not (eb_B (ev_is (s_there x.rd (ev_var rfl) (op_fst (ev_var rfl))) (by rw [abs_there])))) fun _ => eb_not (eb_B (ev_is (s_there x.rd (ev_var rfl) (op_snd (ev_var rfl))) (by rw [abs_there])))) (fun c => ?_) (fun c => ?_)
      · have : h.tieO a b = .err "NoThing" := by
          unfold HS.tieO
          cases c1 : h.there a
          · rfl
          · cases c2 : h.there b
            · rfl
            · rw [c1, c2] at c; cases c
        rw [this] at hres
        cases hres
        exact go_ret (ev_is ev_str (congrArg D.str w_NoThing.symm)) fun v H1 e hv => k v H1 G (x.mono e) (Fr.of_ex e) SFresh.refl hv
      · rw [Bool.or_eq_false_iff] at c
        have c1 : h.there a = true := by simpa using c.1
        have c2 : h.there b = true := by simpa using c.2
        refine go_when (b := decide (a = b)) (eb_is (eb_and (b := true) (c := decide (a = b)) (eb_eqS rfl (by decide +kernel)) fun _ => eb_is (eb_test (ev_op (op_fst (ev_var rfl)) (op_snd (ev_var rfl)) (op_eqF rfl rfl rfl))) (dec_int_val a b)) (by simp)) (fun c3 => ?_) (fun c3 => ?_)
        · have : h.tieO a b = .err "Same" := by
            unfold HS.tieO
            rw [if_pos c1, if_pos c2, if_pos (of_decide_eq_true c3)]
          rw [this] at hres
          cases hres
          exact go_ret (ev_is ev_str (congrArg D.str w_Same.symm)) fun v H1 e hv => k v H1 G (x.mono e) (Fr.of_ex e) SFresh.refl hv
        · have c3' := of_decide_eq_false c3
          refine go_when (b := false) (eb_is (eb_and (b := false) (c := false) (eb_eqS rfl (by decide +kernel)) fun q => by cases q) rfl) (fun q => by cases q) (fun _ => ?_)
          refine go_ifs (b := false) (eb_eqS rfl (by decide +kernel)) (fun q => by cases q) (fun _ => ?_)
          refine go_if (b := !decide ((a, b) ∈ h.pairs)) (eb_test (ev_op (ev_var rfl) (ev_is (s_ties x.rd (ev_var rfl)) rfl) op_notInP)) (fun c4 => ?_) (fun c4 => ?_)
          · have c4' : (a, b) ∉ h.pairs := by simpa using c4
            have : h.tieO a b = .ok .non { h with pairs := h.pairs ++ [(a, b)] } := by
              unfold HS.tieO
              rw [if_pos c1, if_pos c2, if_neg c3', if_neg c4']
            rw [this] at hres
            cases hres
            refine go_last (go_sAppT (z := (a, b)) x hpl (s_tiesO x.rd (ev_var rfl)) (ev_var rfl) rfl fun H2 x2 r2 => go_next fun σ H3 e3 n3 => ?_)
            exact (go_ret (E := { nx := fun _ H' => Q .non H', rt := Q }) ev_non fun v H4 e4 hv => k v H4 G ((x2.mono e3).mono e4) ((r2.trans_ex e3).trans_ex e4) SFresh.refl hv) σ H3 (Same.refl _) n3
          · have c4' : (a, b) ∈ h.pairs := by simpa using c4
            have : h.tieO a b = .ok .non h := by
              unfold HS.tieO
              rw [if_pos c1, if_pos c2, if_neg c3', if_pos c4']
            rw [this] at hres
            cases hres
            refine go_next fun σ H3 e3 n3 => ?_
            exact (go_ret (E := { nx := fun _ H' => Q .non H', rt := Q }) ev_non fun v H4 e4 hv => k v H4 G ((x.mono e3).mono e4) (Fr.of_ex (e3.trans e4)) SFresh.refl hv) σ H3 (Same.refl _) n3
    · obtain ⟨hr, tk, px, hu, hu65⟩ := bd
      refine ⟨_, (pss_cons (ps_if (PW.pt (pw_or (pt_not (pt_val (pe_cf G_law_there (hr.mono (by decide)) (by rfl) S.glo__law_there px (pa_cons (pv 0) (pa_cons (pe_ix ix_tup (pv 2) (pe_int) (fun _ _ => rfl)) pa_nil))))) (pw_or1 (pt_not (pt_val (pe_cf G_law_there (hr.mono (by decide)) (by rfl) S.glo__law_there px (pa_cons (pv 0) (pa_cons (pe_ix ix_tup (pv 2) (pe_int) (fun _ _ => rfl)) pa_nil)))))))) (pss_one (ps_ret (pe_str))) pss_nil)
      (pss_cons (ps_if (PW.pt (pw_and (pt_cmpR op_eq (pv 1) (pe_str) (nomark _)) (pw_and1 (pt_cmpR op_eq (pe_ix ix_tup (pv 2) (pe_int) (fun _ _ => rfl)) (pe_ix ix_tup (pv 2) (pe_int) (fun _ _ => rfl)) (nomark _))))) (pss_one (ps_ret (pe_str))) pss_nil)
      (pss_cons (ps_if (PW.pt (pw_and (pt_cmpR op_eq (pv 1) (pe_str) (nomark _)) (pw_and1 (pt_cmpR (op_notInD hu65) (pv 2) (pe_dget hu (pv 0) (pe_str) (fun _ _ => rfl)) rfl)))) (pss_one (ps_ret (pe_str))) pss_nil)
      (pss_cons (ps_if (pt_cmpR op_eq (pv 1) (pe_str) (nomark _)) (pss_one (ps_expr (pe_bm PySem.F.plainAttrs_list PySem.F.slot_list_remove PySem.F.type_list_remove (mt_removeD hu65) (pe_dget hu (pv 0) (pe_str) (fun _ _ => rfl)) (pa_cons (pv 2) pa_nil)))) (pss_one (ps_if (pt_cmpR (op_notInD hu65) (pv 2) (pe_dget hu (pv 0) (pe_str) (fun _ _ => rfl)) rfl) (pss_one (ps_expr (pe_bm PySem.F.plainAttrs_list PySem.F.slot_list_append PySem.F.type_list_append mt_append (pe_dget hu (pv 0) (pe_str) (fun _ _ => rfl)) (pa_cons (pv 2) pa_nil)))) pss_nil)))
      (pss_one (ps_ret (pe_non))))))), ?_⟩
      refine go_when (b := !h.there a || !h.there b) (eb_or (eb_not (eb_B (ev_is (s_there x.rd (ev_var rfl) (op_fst (ev_var rfl))) (by rw [abs_there])))) fun _ => eb_not (eb_B (ev_is (s_there x.rd (ev_var rfl) (op_snd (ev_var rfl))) (by rw [abs_there])))) (fun c => ?_) (fun c => ?_)
      · have : h.untieO a b = .err "NoThing" := by
          unfold HS.untieO
          cases c1 : h.there a
          · rfl
          · cases c2 : h.there b
            · rfl
            · rw [c1, c2] at c; cases c
        rw [this] at hres
        cases hres
        exact go_ret (ev_is ev_str (congrArg D.str w_NoThing.symm)) fun v H1 e hv => k v H1 G (x.mono e) (Fr.of_ex e) SFresh.refl hv
      · rw [Bool.or_eq_false_iff] at c
        have c1 : h.there a = true := by simpa using c.1
        have c2 : h.there b = true := by simpa using c.2
        refine go_when (b := false) (eb_is (eb_and (b := false) (c := false) (eb_eqS rfl (by decide +kernel)) fun q => by cases q) rfl) (fun q => by cases q) (fun _ => ?_)
        refine go_when (b := !decide ((a, b) ∈ h.pairs)) (eb_is (eb_and (b := true) (c := !decide ((a, b) ∈ h.pairs)) (eb_eqS rfl (by decide +kernel)) fun _ => eb_test (ev_op (ev_var rfl) (ev_is (s_ties x.rd (ev_var rfl)) rfl) op_notInP)) (by simp)) (fun c4 => ?_) (fun c4 => ?_)
        · have c4' : (a, b) ∉ h.pairs := by simpa using c4
          have : h.untieO a b = .err "NoTie" := by
            unfold HS.untieO
            rw [if_pos c1, if_pos c2, if_neg c4']
          rw [this] at hres
          cases hres
          exact go_ret (ev_is ev_str (congrArg D.str w_NoTie.symm)) fun v H1 e hv => k v H1 G (x.mono e) (Fr.of_ex e) SFresh.refl hv
        · have c4' : (a, b) ∈ h.pairs := by simpa using c4
          have : h.untieO a b = .ok .non { h with pairs := h.pairs.erase (a, b) } := by
            unfold HS.untieO
            rw [if_pos c1, if_pos c2, if_pos c4']
          rw [this] at hres
          cases hres
          refine go_ifs (b := true) (eb_eqS rfl (by decide +kernel)) (fun _ => ?_) (fun q => by cases q)
          refine go_last (go_sRemT (z := (a, b)) x c4' (s_tiesO x.rd (ev_var rfl)) (ev_var rfl) rfl fun H2 x2 r2 => go_next fun σ H3 e3 n3 => ?_)
          exact (go_ret (E := { nx := fun _ H' => Q .non H', rt := Q }) ev_non fun v H4 e4 hv => k v H4 G ((x2.mono e3).mono e4) ((r2.trans_ex e3).trans_ex e4) SFresh.refl hv) σ H3 (Same.refl _) n3
end Cs
set_option Elab.async false
set_option linter.all false
set_option maxRecDepth 100000
set_option maxHeartbeats 4000000
namespace Cs
open PySem PySem.Spec PyProof.Rows L2
/-! ### marks -/
def marked (rows : List (Int × Row)) (f : Int → Option Int) : List (Int × LRow) := rows.map fun p => (p.1, ⟨p.2, f p.1⟩)
theorem marked_get (rows : List (Int × Row)) (f : Int → Option Int) (n : Int) : get (marked rows f) n = (get rows n).map fun r => ⟨r, f n⟩ := get_map (β := LRow) (fun n r => ⟨r, f n⟩) rows n
theorem marked_keys (rows : List (Int × Row)) (f : Int → Option Int) : (marked rows f).map (·.1) = rows.map (·.1) := by
  unfold marked
  rw [List.map_map]
  rfl
theorem marked_len (rows : List (Int × Row)) (f : Int → Option Int) : (marked rows f).length = rows.length := by simp [marked]
theorem lt_len {a b c : Nat} (h : a = b) (k : b < c) : a < c := by omega
theorem get_of_mem {α : Type} {l : List (Int × α)} (hn : (l.map (·.1)).Nodup) {p : Int × α} (hp : p ∈ l) : get l p.1 = some p.2 := by
  induction l with
  | nil => cases hp
  | cons q r ih =>
    rw [List.map_cons, List.nodup_cons] at hn
    rcases List.mem_cons.mp hp with e | e
    · rw [e, get_pos rfl]
    · have hne : ¬ q.1 = p.1 := fun z => hn.1 (z ▸ List.mem_map.mpr ⟨p, e, rfl⟩)
      rw [get_neg hne, ih hn.2 e]
theorem marked_put {rows : List (Int × Row)} {f g : Int → Option Int} {n : Int} {r : Row} (hn : (rows.map (·.1)).Nodup) (hr : get rows n = some r) (hg : ∀ k, k ≠ n → g k = f k) : put (marked rows f) n ⟨r, g n⟩ = marked rows g := by
  unfold put
  rw [if_pos (by rw [marked_get, hr]; rfl)]
  unfold marked
  rw [List.map_map]
  refine List.map_congr_left fun p hp => ?_
  show (if p.1 = n then (p.1, (⟨r, g n⟩ : LRow)) else (p.1, ⟨p.2, f p.1⟩)) = (p.1, ⟨p.2, g p.1⟩)
  by_cases e : p.1 = n
  · rw [if_pos e, e]
    have := get_of_mem hn hp
    rw [e, hr] at this
    cases this
    rfl
  · rw [if_neg e, hg p.1 e]
theorem abs_marked (h : HS) : h.abs.rows = marked h.rows fun k => get h.shelved k := rfl
section
variable {K : PySem.W.Frag} {ds : List (Option D)} {H : Hp} {ta tb tn : TE} {q : Addr} {G : SFoot} {s : LS}
/-- rows[one][:3] + (mark,) -/
theorem s_remark {n : Int} {r : LRow} {o : Option Int} (x : SRd H q G s) (ho : EvD ta ds H (.obj q)) (hn : EvD tn ds H (.int n)) (hr : get s.rows n = some r) (hm : EvD tb ds H (oI o)) :
    EvD (tOp (rCatT K) (tSl (rSlT K) (tDGet (tDGet ta (tC (.str "rows"))) tn) tNoPart (tPart (tC (.int 3)))) (tTup (tCons tb tNil))) ds H (LRow.d ⟨r.row, o⟩) := ev_op (ev_head3 (s_row x ho hn hr)) (ev_tup (ea_cons hm ea_nil) (by simp)) (op_catTD (by simp) (by simp) (by simp))
end
theorem cast_abs {h : HS} {n : Int} : (h.castH n).abs = { h.abs with rows := marked h.rows fun k => if k ∈ h.wholeL n then some n else get h.shelved k, casts := h.casts ++ [(n, h.today)] } := by
  have e : (h.castH n).abs.rows = marked h.rows fun k => if k ∈ h.wholeL n then some n else get h.shelved k := by
    show (h.rows.map fun p => (p.1, (⟨p.2, get (h.castH n).shelved p.1⟩ : LRow))) = _
    unfold marked
    refine List.map_congr_left fun p _ => ?_
    rw [cast_sh]
  show LS.mk _ _ (h.castH n).abs.rows _ _ _ _ = _
  rw [e]
  rfl
theorem back_abs {h : HS} {n : Int} {r : Row} : (h.backH n r).abs = { h.abs with rows := marked (put h.rows n ⟨h.backPar r.par, freeV r.name (h.namesIn (h.backPar r.par) none), r.text⟩) fun k => if get h.shelved k = some n then none else get h.shelved k, casts := h.casts.filter fun q => decide (q.1 ≠ n) } := by
  have e : (h.backH n r).abs.rows = marked (put h.rows n ⟨h.backPar r.par, freeV r.name (h.namesIn (h.backPar r.par) none), r.text⟩) fun k => if get h.shelved k = some n then none else get h.shelved k := by
    show ((put h.rows n _).map fun p => (p.1, (⟨p.2, get (without h.shelved (h.bundle n)) p.1⟩ : LRow))) = _
    unfold marked
    refine List.map_congr_left fun p _ => ?_
    rw [get_without]
    show _ = (p.1, LRow.mk p.2 (if get h.shelved p.1 = some n then none else get h.shelved p.1))
    by_cases c : get h.shelved p.1 = some n
    · rw [if_pos (mem_bundle.mpr c), if_pos c]
    · rw [if_neg (fun z => c (mem_bundle.mp z)), if_neg c]
  show LS.mk _ _ (h.backH n r).abs.rows _ _ _ _ = _
  rw [e]
  rfl
/-! ### _law_shelve -/
def sp_law_shelve (K : PySem.W.Frag) : Sp := swsp K fun s as d s' => ∃ h n, s = HS.abs h ∧ OkH h ∧ ((as = [.str "cast", .int n] ∧ (d, s') = toS ((h.castO n).told h)) ∨ (as = [.str "back", .int n] ∧ (d, s') = toS ((h.backO n).told h)) ∨ (as = [.str "gone", .int n] ∧ (d, s') = toS ((h.goneO n).told h)))
theorem OkH.tree {h : HS} (o : OkH h) : Tree h := let ⟨_, i, _⟩ := o; i.tree
theorem ok_law_shelve {P : Program} {w : World} {K : PySem.W.Frag} {mg : Str → Option Value} {base : Heap} (S : Says K mg) : Fk P w K mg base 4 (He.fAd K ("_law_shelve", none)) ["state", "word", "number"] (sp_law_shelve K) := by
  have G_law_free := ok_law_free (P := P) (w := w) (base := base) S
  have G_law_there := ok_law_there (P := P) (w := w) (base := base) S
  have G_law_lose := ok_law_lose (P := P) (w := w) (base := base) S
  have G_law_within := ok_law_within (P := P) (w := w) (base := base) S
  refine mk_s S.df_law_shelve sc_law_shelve ?_ (by decide) fun cdv A outer sh H H0 Q E q G s as d s' bd pa x hp k => ?_
  · rintro s as d s' ⟨h, n, _, _, ⟨rfl, _⟩ | ⟨rfl, _⟩ | ⟨rfl, _⟩⟩ <;> rfl
  · obtain ⟨h, n, rfl, ok, hcase⟩ := hp
    have w := ok.wf
    have hrl := w.rl
    have hcl := w.cl
    have hal : h.abs.rows.length < 64 := by rw [abs_len]; exact hrl
    rcases hcase with ⟨rfl, hres⟩ | ⟨rfl, hres⟩ | ⟨rfl, hres⟩
    · obtain ⟨hr, tk, px, hu, hu65⟩ := bd
      refine ⟨_, (pss_cons (ps_if (pt_cmpR op_eq (pv 1) (pe_str) (nomark _)) (pss_cons (ps_if (pt_not (pt_val (pe_cf G_law_there (hr.mono (by decide)) (by rfl) S.glo__law_there px (pa_cons (pv 0) (pa_cons (pv 2) pa_nil))))) (pss_one (ps_ret (pe_str))) pss_nil)
      (pss_cons (ps_for (passes_of rfl) rfl (pi_list (pe_cf G_law_within (hr.mono (by decide)) (by rfl) S.glo__law_within px (pa_cons (pv 0) (pa_cons (pv 2) pa_nil)))) (pg_name (i := 3) sc_law_shelve.nd rfl (Or.inl rfl)) (pss_one (ps_dput hu (pe_dget hu (pv 0) (pe_str) (fun _ _ => rfl)) (pv 3) (pe_op op_catT (pe_slice sl_tup (pe_dget hu (pe_dget hu (pv 0) (pe_str) (fun _ _ => rfl)) (pv 3) (fun _ _ => rfl)) po_none (po_some (pe_int))) (pe_tup (pa_cons (pv 2) pa_nil))) rfl)))
      (pss_cons (ps_expr (pe_bm PySem.F.plainAttrs_list PySem.F.slot_list_append PySem.F.type_list_append mt_append (pe_dget hu (pv 0) (pe_str) (fun _ _ => rfl)) (pa_cons (pe_tup (pa_cons (pv 2) (pa_cons (pe_dget hu (pv 0) (pe_str) (fun _ _ => rfl)) pa_nil))) pa_nil)))
      (pss_one (ps_ret (pe_non)))))) pss_nil)
      (pss_cons (ps_if (pt_cmpR op_notIn_seq (pv 2) (pe_lc (own := [("row", 8)]) (g := (gName 8)) (tt := tYes) (te := (tOp (rIxT K) (tVar 8) (tC (.int 0)))) rfl sc_law_shelve.nd (pi_list (pe_dget hu (pv 0) (pe_str) (fun _ _ => rfl))) (blkOk_by (N := ["state", "word", "number", "one", "parent", "name", "text", "mark", "row"]) (sc := defScope s_law_shelve) (by decide +kernel)) (fun _ _ _ _ _ => (pg_name (i := 8) sc_law_shelve.nd rfl (Or.inl rfl))) (fun _ _ _ _ _ => pts_nil) (fun _ _ _ _ _ => (pe_ix ix_tup (pv 8) (pe_int) (fun _ _ => rfl)))) rfl) (pss_one (ps_ret (pe_str))) pss_nil)
      (pss_cons (ps_if (pt_cmpR op_eq (pv 1) (pe_str) (nomark _)) (pss_cons (ps_expr (pe_cf G_law_lose (hr.mono (by decide)) (by rfl) S.glo__law_lose px (pa_cons (pv 0) (pa_cons (pv 2) pa_nil))))
      (pss_one (ps_ret (pe_non)))) pss_nil)
      (pss_cons (ps_asg (pe_dget hu (pe_dget hu (pv 0) (pe_str) (fun _ _ => rfl)) (pv 2) (fun _ _ => rfl)) (pg_tup rfl (pgs_cons (pg_name (i := 4) sc_law_shelve.nd rfl (Or.inl rfl)) (pgs_cons (pg_name (i := 5) sc_law_shelve.nd rfl (Or.inl rfl)) (pgs_cons (pg_name (i := 6) sc_law_shelve.nd rfl (Or.inl rfl)) (pgs_cons (pg_name (i := 7) sc_law_shelve.nd rfl (Or.inl rfl)) pgs_nil))))))
      (pss_cons (ps_if (pt_not (pt_val (pe_cf G_law_there (hr.mono (by decide)) (by rfl) S.glo__law_there px (pa_cons (pv 0) (pa_cons (pv 4) pa_nil))))) (pss_one (ps_set (i := 4) sc_law_shelve.nd rfl (Or.inl rfl) (pe_non))) pss_nil)
      (pss_cons (ps_dput hu (pe_dget hu (pv 0) (pe_str) (fun _ _ => rfl)) (pv 2) (pe_tup (pa_cons (pv 4) (pa_cons (pe_cf G_law_free (hr.mono (by decide)) (by rfl) S.glo__law_free px (pa_cons (pv 0) (pa_cons (pv 4) (pa_cons (pv 5) pa_nil)))) (pa_cons (pv 6) (pa_cons (pv 7) pa_nil))))) rfl)
      (pss_cons (ps_for (passes_of rfl) rfl (pi_list (pe_callTy (call_list_dK rfl) (by rfl) S.free_list (by decide +kernel) (pa_cons (pe_dget hu (pv 0) (pe_str) (fun _ _ => rfl)) pa_nil))) (pg_name (i := 3) sc_law_shelve.nd rfl (Or.inl rfl)) (pss_one (ps_if (pt_cmpR op_eq (pe_ix ix_tup (pe_dget hu (pe_dget hu (pv 0) (pe_str) (fun _ _ => rfl)) (pv 3) (fun _ _ => rfl)) (pe_int) (fun _ _ => rfl)) (pv 2) (nomark _)) (pss_one (ps_dput hu (pe_dget hu (pv 0) (pe_str) (fun _ _ => rfl)) (pv 3) (pe_op op_catT (pe_slice sl_tup (pe_dget hu (pe_dget hu (pv 0) (pe_str) (fun _ _ => rfl)) (pv 3) (fun _ _ => rfl)) po_none (po_some (pe_int))) (pe_tup (pa_cons (pe_non) pa_nil))) rfl)) pss_nil)))
      (pss_cons (ps_dput hu (pv 0) (pe_str) (pe_lc (own := [("row", 8)]) (g := (gName 8)) (tt := (tTest (tOp rNe (tOp (rIxT K) (tVar 8) (tC (.int 0))) (tVar 2)))) (te := (tVar 8)) rfl sc_law_shelve.nd (pi_list (pe_dget hu (pv 0) (pe_str) (fun _ _ => rfl))) (blkOk_by (N := ["state", "word", "number", "one", "parent", "name", "text", "mark", "row"]) (sc := defScope s_law_shelve) (by decide +kernel)) (fun _ _ _ _ _ => (pg_name (i := 8) sc_law_shelve.nd rfl (Or.inl rfl))) (fun _ _ _ _ _ => (pts_one (pt_cmpR op_ne (pe_ix ix_tup (pv 8) (pe_int) (fun _ _ => rfl)) (pv 2) (nomark _)))) (fun _ _ _ _ _ => (pv 8))) rfl)
      (pss_one (ps_ret (pe_non))))))))))), ?_⟩
      refine go_when (b := true) (eb_eqS rfl (by decide +kernel)) (fun _ => ?_) (fun q => by cases q)
      refine go_when (b := !h.there n) (eb_not (eb_B (ev_is (s_there x.rd (ev_var rfl) (ev_var rfl)) (by rw [abs_there])))) (fun c => ?_) (fun c => ?_)
      · have c' : ¬ h.there n = true := by simpa using c
        have : h.castO n = .err "NoThing" := by
          unfold HS.castO
          rw [if_neg c']
        rw [this] at hres
        cases hres
        exact go_ret (ev_is ev_str (congrArg D.str w_NoThing.symm)) fun v H1 e hv => k v H1 G (x.mono e) (Fr.of_ex e) SFresh.refl hv
      · have ht : h.there n = true := by simpa using c
        rw [cast_eq ht] at hres
        cases hres
        refine go_forK (ι := Unit) (ns := h.wholeL n) (s_within x.rd ht hrl ok.tree (ev_var rfl) (ev_var rfl)) (fun i _ H' => SAt H' q G { h.abs with rows := marked h.rows fun k => if k ∈ (h.wholeL n).take i then some n else get h.shelved k } ∧ Fr (sfp q G) H H') (fun _ => [some (.obj q), some (.str "cast"), some (.int n), none, none, none, none, none, none]) () rfl (fun H' e => ⟨x.mono e, Fr.of_ex e⟩) (fun i m _ H1 hm pm M hM => ?_) (fun _ H1 pm => ?_)
        · obtain ⟨x1, r1⟩ := pm
          obtain ⟨r, hr⟩ := there_row (Desc.there ht ((mem_whole ht).mp (List.mem_of_getElem? hm)))
          have hr2 := marked_get h.rows (fun k => if k ∈ (h.wholeL n).take i then some n else get h.shelved k) m
          rw [hr] at hr2
          refine go_last (go_srowK (n := m) (r := ⟨r, some n⟩) x1 (by dsimp only; rw [marked_len]; omega) (s_remark (o := some n) x1.rd (ev_var rfl) (ev_var rfl) hr2 (ev_var rfl)) (s_rows x1.rd (ev_var rfl)) (ev_var rfl) fun H2 x2 r2 kl => ?_)
          refine go_next fun σ H3 e3 n3 => hM () σ H3 ⟨?_, (Fr.strans r1 SFresh.refl r2).trans_ex e3⟩ (fun a vs q => e3 _ _ (kl a vs q)) (n3.forget 3)
          have hp := marked_put (f := fun k => if k ∈ (h.wholeL n).take i then some n else get h.shelved k) (g := fun k => if k ∈ (h.wholeL n).take (i + 1) then some n else get h.shelved k) w.kn hr fun k hk => by
            have : k ∈ (h.wholeL n).take (i + 1) ↔ k ∈ (h.wholeL n).take i := by
              rw [List.take_succ, hm]
              simp [hk]
            simp only [this]
          have e5 : (if m ∈ (h.wholeL n).take (i + 1) then some n else get h.shelved m) = some n := by
            rw [if_pos (by rw [List.take_succ, hm]; simp)]
          simp only [e5] at hp
          rw [← hp]
          exact x2.mono e3
        · obtain ⟨x1, r1⟩ := pm
          rw [List.take_length] at x1
          refine go_sAppC (z := (n, h.today)) x1 (by show h.casts.length < _; omega) (s_castsO x1.rd (ev_var rfl)) (ev_tup (ea_cons (ev_var rfl) (ea_cons (ev_is (s_day x1.rd (ev_var rfl)) rfl) ea_nil)) (by simp)) rfl fun H2 x2 r2 => ?_
          refine go_ret ev_non fun v H3 e3 hv => k v H3 G ?_ ((Fr.strans r1 SFresh.refl r2).trans_ex e3) SFresh.refl hv
          rw [show ((Out.ok D.non (h.castH n)).told h).2 = h.castH n from rfl, cast_abs]
          exact x2.mono e3
    · obtain ⟨hr, tk, px, hu, hu65⟩ := bd
      refine ⟨_, (pss_cons (ps_if (pt_cmpR op_eq (pv 1) (pe_str) (nomark _)) (pss_cons (ps_if (pt_not (pt_val (pe_cf G_law_there (hr.mono (by decide)) (by rfl) S.glo__law_there px (pa_cons (pv 0) (pa_cons (pv 2) pa_nil))))) (pss_one (ps_ret (pe_str))) pss_nil)
      (pss_cons (ps_for (passes_of rfl) rfl (pi_list (pe_cf G_law_within (hr.mono (by decide)) (by rfl) S.glo__law_within px (pa_cons (pv 0) (pa_cons (pv 2) pa_nil)))) (pg_name (i := 3) sc_law_shelve.nd rfl (Or.inl rfl)) (pss_one (ps_dput hu (pe_dget hu (pv 0) (pe_str) (fun _ _ => rfl)) (pv 3) (pe_op op_catT (pe_slice sl_tup (pe_dget hu (pe_dget hu (pv 0) (pe_str) (fun _ _ => rfl)) (pv 3) (fun _ _ => rfl)) po_none (po_some (pe_int))) (pe_tup (pa_cons (pv 2) pa_nil))) rfl)))
      (pss_cons (ps_expr (pe_bm PySem.F.plainAttrs_list PySem.F.slot_list_append PySem.F.type_list_append mt_append (pe_dget hu (pv 0) (pe_str) (fun _ _ => rfl)) (pa_cons (pe_tup (pa_cons (pv 2) (pa_cons (pe_dget hu (pv 0) (pe_str) (fun _ _ => rfl)) pa_nil))) pa_nil)))
      (pss_one (ps_ret (pe_non)))))) pss_nil)
      (pss_cons (ps_if (pt_cmpR op_notIn_seq (pv 2) (pe_lc (own := [("row", 8)]) (g := (gName 8)) (tt := tYes) (te := (tOp (rIxT K) (tVar 8) (tC (.int 0)))) rfl sc_law_shelve.nd (pi_list (pe_dget hu (pv 0) (pe_str) (fun _ _ => rfl))) (blkOk_by (N := ["state", "word", "number", "one", "parent", "name", "text", "mark", "row"]) (sc := defScope s_law_shelve) (by decide +kernel)) (fun _ _ _ _ _ => (pg_name (i := 8) sc_law_shelve.nd rfl (Or.inl rfl))) (fun _ _ _ _ _ => pts_nil) (fun _ _ _ _ _ => (pe_ix ix_tup (pv 8) (pe_int) (fun _ _ => rfl)))) rfl) (pss_one (ps_ret (pe_str))) pss_nil)
      (pss_cons (ps_if (pt_cmpR op_eq (pv 1) (pe_str) (nomark _)) (pss_cons (ps_expr (pe_cf G_law_lose (hr.mono (by decide)) (by rfl) S.glo__law_lose px (pa_cons (pv 0) (pa_cons (pv 2) pa_nil))))
      (pss_one (ps_ret (pe_non)))) pss_nil)
      (pss_cons (ps_asg (pe_dget hu (pe_dget hu (pv 0) (pe_str) (fun _ _ => rfl)) (pv 2) (fun _ _ => rfl)) (pg_tup rfl (pgs_cons (pg_name (i := 4) sc_law_shelve.nd rfl (Or.inl rfl)) (pgs_cons (pg_name (i := 5) sc_law_shelve.nd rfl (Or.inl rfl)) (pgs_cons (pg_name (i := 6) sc_law_shelve.nd rfl (Or.inl rfl)) (pgs_cons (pg_name (i := 7) sc_law_shelve.nd rfl (Or.inl rfl)) pgs_nil))))))
      (pss_cons (ps_if (pt_not (pt_val (pe_cf G_law_there (hr.mono (by decide)) (by rfl) S.glo__law_there px (pa_cons (pv 0) (pa_cons (pv 4) pa_nil))))) (pss_one (ps_set (i := 4) sc_law_shelve.nd rfl (Or.inl rfl) (pe_non))) pss_nil)
      (pss_cons (ps_dput hu (pe_dget hu (pv 0) (pe_str) (fun _ _ => rfl)) (pv 2) (pe_tup (pa_cons (pv 4) (pa_cons (pe_cf G_law_free (hr.mono (by decide)) (by rfl) S.glo__law_free px (pa_cons (pv 0) (pa_cons (pv 4) (pa_cons (pv 5) pa_nil)))) (pa_cons (pv 6) (pa_cons (pv 7) pa_nil))))) rfl)
      (pss_cons (ps_for (passes_of rfl) rfl (pi_list (pe_callTy (call_list_dK rfl) (by rfl) S.free_list (by decide +kernel) (pa_cons (pe_dget hu (pv 0) (pe_str) (fun _ _ => rfl)) pa_nil))) (pg_name (i := 3) sc_law_shelve.nd rfl (Or.inl rfl)) (pss_one (ps_if (pt_cmpR op_eq (pe_ix ix_tup (pe_dget hu (pe_dget hu (pv 0) (pe_str) (fun _ _ => rfl)) (pv 3) (fun _ _ => rfl)) (pe_int) (fun _ _ => rfl)) (pv 2) (nomark _)) (pss_one (ps_dput hu (pe_dget hu (pv 0) (pe_str) (fun _ _ => rfl)) (pv 3) (pe_op op_catT (pe_slice sl_tup (pe_dget hu (pe_dget hu (pv 0) (pe_str) (fun _ _ => rfl)) (pv 3) (fun _ _ => rfl)) po_none (po_some (pe_int))) (pe_tup (pa_cons (pe_non) pa_nil))) rfl)) pss_nil)))
      (pss_cons (ps_dput hu (pv 0) (pe_str) (pe_lc (own := [("row", 8)]) (g := (gName 8)) (tt := (tTest (tOp rNe (tOp (rIxT K) (tVar 8) (tC (.int 0))) (tVar 2)))) (te := (tVar 8)) rfl sc_law_shelve.nd (pi_list (pe_dget hu (pv 0) (pe_str) (fun _ _ => rfl))) (blkOk_by (N := ["state", "word", "number", "one", "parent", "name", "text", "mark", "row"]) (sc := defScope s_law_shelve) (by decide +kernel)) (fun _ _ _ _ _ => (pg_name (i := 8) sc_law_shelve.nd rfl (Or.inl rfl))) (fun _ _ _ _ _ => (pts_one (pt_cmpR op_ne (pe_ix ix_tup (pv 8) (pe_int) (fun _ _ => rfl)) (pv 2) (nomark _)))) (fun _ _ _ _ _ => (pv 8))) rfl)
      (pss_one (ps_ret (pe_non))))))))))), ?_⟩
      refine go_when (b := false) (eb_eqS rfl (by decide +kernel)) (fun q => by cases q) (fun _ => ?_)
      refine go_when (b := !decide (n ∈ h.casts.map (·.1))) ?_ (fun c => ?_) (fun c => ?_)
      · refine eb_is (eb_test (ev_op (ev_var rfl) (?_ : EvD _ _ H (.lst ((h.casts.map (·.1)).map D.int))) (op_inL rfl (ints_flat _)))) (by rw [ints_val]; exact oMem_neg _ _)
        rw [← map_pairs_fst]
        exact ev_lcP _ (ev_is (s_casts x.rd (ev_var rfl)) rfl) (by show h.casts.length < _; omega) (fun p hp => eb_yes) (fun p hp y hy => by cases hy; exact ⟨ev_op (ev_var rfl) ev_int (op_ixT (i := 0) rfl), rfl⟩)
      · have c' : n ∉ h.casts.map (·.1) := by simpa using c
        have : h.backO n = .err "NoCast" := by
          unfold HS.backO
          rw [if_neg c']
        rw [this] at hres
        cases hres
        exact go_ret (ev_is ev_str (congrArg D.str w_NoCast.symm)) fun v H1 e hv => k v H1 G (x.mono e) (Fr.of_ex e) SFresh.refl hv
      · have hc : n ∈ h.casts.map (·.1) := by simpa using c
        have hnk : n ∈ h.keys := by
          obtain ⟨z, hz, rfl⟩ := List.mem_map.mp hc
          exact w.ca z hz
        obtain ⟨r, hr⟩ := keys_row hnk
        have hs : get h.shelved n = some n := let ⟨_, i, _⟩ := ok; i.cr n hc
        have hr2 : get h.abs.rows n = some ⟨r, some n⟩ := by rw [abs_get, hr, hs]; rfl
        have : h.backO n = .ok .non (h.backH n r) := by
          unfold HS.backO
          rw [if_pos hc, hr]
        rw [this] at hres
        cases hres
        refine go_when (b := false) (eb_eqS rfl (by decide +kernel)) (fun q => by cases q) (fun _ => ?_)
        refine go_un4 (s_row x.rd (ev_var rfl) (ev_var rfl) hr2) ?_
        refine go_whenSet (b := !h.abs.there r.par) (x := oI r.par) (y := .non) (eb_not (eb_B (s_thereO x.rd (ev_var rfl) (ev_var rfl)))) rfl (fun _ => ev_non) ?_
        have epar : (if (!h.abs.there r.par) = true then D.non else oI r.par) = oI (h.backPar r.par) := by
          unfold HS.backPar HS.goneP
          cases r.par with
          | none => rfl
          | some z =>
            rw [abs_there]
            dsimp only
            by_cases hz : h.there z = true
            · simp only [hz, Bool.not_true, Bool.false_eq_true, if_false]
            · have hz' : h.there z = false := by simpa using hz
              simp only [hz', Bool.not_false, if_true]
              rfl
        rw [epar]
        have hname := ok.name hr
        refine go_srowK (n := n) (r := ⟨⟨h.backPar r.par, freeV r.name (h.namesIn (h.backPar r.par) none), r.text⟩, some n⟩) x (by omega) (ev_tup (ea_cons (ev_var rfl) (ea_cons (s_free x hrl hname (ev_var rfl) (ev_var rfl) (ev_var rfl)) (ea_cons (ev_var rfl) (ea_cons (ev_var rfl) ea_nil)))) (by simp)) (s_rows x.rd (ev_var rfl)) (ev_var rfl) fun H2 x2 r2 kl2 => ?_
        generalize hnr : put h.rows n ⟨h.backPar r.par, freeV r.name (h.namesIn (h.backPar r.par) none), r.text⟩ = rows2
        have hk2 : rows2.map (·.1) = h.keys := by rw [← hnr]; exact keys_put_old (by rw [hr]; rfl)
        have er : put h.abs.rows n ⟨⟨h.backPar r.par, freeV r.name (h.namesIn (h.backPar r.par) none), r.text⟩, some n⟩ = marked rows2 fun k => get h.shelved k := by
          have := put_map (β := LRow) (l := h.rows) (n := n) (a := ⟨h.backPar r.par, freeV r.name (h.namesIn (h.backPar r.par) none), r.text⟩) fun k r => ⟨r, get h.shelved k⟩
          rw [hnr, hs] at this
          exact this.symm
        rw [er] at x2
        have x2k : (kds LRow.d (marked rows2 fun k => get h.shelved k)).map (fun p => keyD p.1) = h.keys.map D.int := by
          rw [← hk2]
          unfold kds marked
          rw [List.map_map, List.map_map, List.map_map]
          rfl
        refine go_forK (ι := Unit) (ns := h.keys) (ev_is (ev_cb (ea_cons (s_rows x2.rd (ev_var rfl)) ea_nil) (cl_listD x2.rw)) (by rw [x2k])) (fun i _ H' => SAt H' q G { h.abs with rows := marked rows2 fun k => if k ∈ h.keys.take i ∧ get h.shelved k = some n then none else get h.shelved k } ∧ Fr (sfp q G) H2 H') (fun _ => [some (.obj q), some (.str "back"), some (.int n), none, some (oI (h.backPar r.par)), some (.str r.name), some (oS r.text), some (.int n), none]) () rfl (fun H' e => ⟨by simpa using x2.mono e, Fr.of_ex e⟩) (fun i m _ H3 hm pm M hM => ?_) (fun _ H3 pm => ?_)
        · obtain ⟨x3, r3⟩ := pm
          have hmk : m ∈ h.keys := List.mem_of_getElem? hm
          have hnt : m ∉ h.keys.take i := not_take w.kn hm
          obtain ⟨r', hr'⟩ : ∃ r', get rows2 m = some r' := Option.isSome_iff_exists.mp (get_mem.mpr (by rw [hk2]; exact hmk))
          have hg := marked_get rows2 (fun k => if k ∈ h.keys.take i ∧ get h.shelved k = some n then none else get h.shelved k) m
          rw [hr'] at hg
          have hg' : get (marked rows2 fun k => if k ∈ h.keys.take i ∧ get h.shelved k = some n then none else get h.shelved k) m = some ⟨r', get h.shelved m⟩ := by
            rw [hg]
            show some (LRow.mk r' (if m ∈ h.keys.take i ∧ get h.shelved m = some n then none else get h.shelved m)) = _
            rw [if_neg fun z => hnt z.1]
          refine go_if (b := decide (get h.shelved m = some n)) (eb_is (eb_test (ev_op (s_mark x3.rd (ev_var rfl) (ev_var rfl) hg') (ev_var rfl) (op_eqF (oI_flat _) rfl (oI_scal _ (some n))))) (by rw [show (D.int n).val = (oI (some n)).val from rfl, oI_val])) (fun c2 => ?_) (fun c2 => ?_)
          · have c2' := of_decide_eq_true c2
            refine go_last (go_srowK (n := m) (r := ⟨r', none⟩) x3 (by have := congrArg List.length hk2; simp only [HS.keys, List.length_map] at this; dsimp only; rw [marked_len]; omega) (s_remark (o := none) x3.rd (ev_var rfl) (ev_var rfl) hg' ev_non) (s_rows x3.rd (ev_var rfl)) (ev_var rfl) fun H4 x4 r4 kl4 => ?_)
            refine go_next fun σ H5 e5 n5 => hM () σ H5 ⟨?_, (Fr.strans r3 SFresh.refl r4).trans_ex e5⟩ (fun a vs q => e5 _ _ (kl4 a vs q)) (n5.forget 3)
            have hp := marked_put (f := fun k => if k ∈ h.keys.take i ∧ get h.shelved k = some n then none else get h.shelved k) (g := fun k => if k ∈ h.keys.take (i + 1) ∧ get h.shelved k = some n then none else get h.shelved k) (by rw [hk2]; exact w.kn) hr' fun k hk => by
              have : k ∈ h.keys.take (i + 1) ↔ k ∈ h.keys.take i := by
                rw [List.take_succ, hm]
                simp [hk]
              simp only [this]
            have e6 : (if m ∈ h.keys.take (i + 1) ∧ get h.shelved m = some n then none else get h.shelved m) = none := by
              rw [if_pos ⟨by rw [List.take_succ, hm]; simp, c2'⟩]
            simp only [e6] at hp
            rw [← hp]
            exact x4.mono e5
          · have c2' := of_decide_eq_false c2
            refine go_next fun σ H5 e5 n5 => hM () σ H5 ⟨?_, r3.trans_ex e5⟩ (KeepL.ex e5) (n5.forget 3)
            have e7 : (marked rows2 fun k => if k ∈ h.keys.take (i + 1) ∧ get h.shelved k = some n then none else get h.shelved k) = marked rows2 fun k => if k ∈ h.keys.take i ∧ get h.shelved k = some n then none else get h.shelved k := by
              congr 1
              funext k
              by_cases hk : k = m
              · rw [hk, if_neg (fun z => c2' z.2), if_neg (fun z => c2' z.2)]
              · have : k ∈ h.keys.take (i + 1) ↔ k ∈ h.keys.take i := by
                  rw [List.take_succ, hm]
                  simp [hk]
                simp only [this]
            rw [e7]
            exact x3.mono e5
        · obtain ⟨x3, r3⟩ := pm
          rw [List.take_length] at x3
          have e8 : (marked rows2 fun k => if k ∈ h.keys ∧ get h.shelved k = some n then none else get h.shelved k) = marked rows2 fun k => if get h.shelved k = some n then none else get h.shelved k := by
            congr 1
            funext k
            by_cases c3 : get h.shelved k = some n
            · rw [if_pos ⟨w.sub k (get_key c3), c3⟩, if_pos c3]
            · rw [if_neg (fun z => c3 z.2), if_neg c3]
          rw [e8] at x3
          refine go_sCasts (ps := h.casts.filter fun q => decide (q.1 ≠ n)) x3 (el_lcF _ (ev_is (s_casts x3.rd (ev_var rfl)) rfl) (by show h.casts.length < _; omega) (fun z hz => ?_) (by simp)) (ev_var rfl) fun H4 G4 x4 r4 f4 kl4 => ?_
          · refine eb_is (eb_test (ev_op (op_fst (ev_var rfl)) (ev_var rfl) (op_neF rfl rfl rfl))) ?_
            rw [dec_int_val]
            by_cases c : z.1 = n <;> simp [c]
          refine go_ret ev_non fun v H5 e5 hv => k v H5 G4 ?_ ((Fr.strans r2 SFresh.refl (Fr.strans r3 SFresh.refl r4)).trans_ex e5) (SFresh.refl.trans r2 (SFresh.refl.trans r3 f4)) hv
          rw [show ((Out.ok D.non (h.backH n r)).told h).2 = h.backH n r from rfl, back_abs, hnr]
          exact x4.mono e5
    · obtain ⟨hr, tk, px, hu, hu65⟩ := bd
      refine ⟨_, (pss_cons (ps_if (pt_cmpR op_eq (pv 1) (pe_str) (nomark _)) (pss_cons (ps_if (pt_not (pt_val (pe_cf G_law_there (hr.mono (by decide)) (by rfl) S.glo__law_there px (pa_cons (pv 0) (pa_cons (pv 2) pa_nil))))) (pss_one (ps_ret (pe_str))) pss_nil)
      (pss_cons (ps_for (passes_of rfl) rfl (pi_list (pe_cf G_law_within (hr.mono (by decide)) (by rfl) S.glo__law_within px (pa_cons (pv 0) (pa_cons (pv 2) pa_nil)))) (pg_name (i := 3) sc_law_shelve.nd rfl (Or.inl rfl)) (pss_one (ps_dput hu (pe_dget hu (pv 0) (pe_str) (fun _ _ => rfl)) (pv 3) (pe_op op_catT (pe_slice sl_tup (pe_dget hu (pe_dget hu (pv 0) (pe_str) (fun _ _ => rfl)) (pv 3) (fun _ _ => rfl)) po_none (po_some (pe_int))) (pe_tup (pa_cons (pv 2) pa_nil))) rfl)))
      (pss_cons (ps_expr (pe_bm PySem.F.plainAttrs_list PySem.F.slot_list_append PySem.F.type_list_append mt_append (pe_dget hu (pv 0) (pe_str) (fun _ _ => rfl)) (pa_cons (pe_tup (pa_cons (pv 2) (pa_cons (pe_dget hu (pv 0) (pe_str) (fun _ _ => rfl)) pa_nil))) pa_nil)))
      (pss_one (ps_ret (pe_non)))))) pss_nil)
      (pss_cons (ps_if (pt_cmpR op_notIn_seq (pv 2) (pe_lc (own := [("row", 8)]) (g := (gName 8)) (tt := tYes) (te := (tOp (rIxT K) (tVar 8) (tC (.int 0)))) rfl sc_law_shelve.nd (pi_list (pe_dget hu (pv 0) (pe_str) (fun _ _ => rfl))) (blkOk_by (N := ["state", "word", "number", "one", "parent", "name", "text", "mark", "row"]) (sc := defScope s_law_shelve) (by decide +kernel)) (fun _ _ _ _ _ => (pg_name (i := 8) sc_law_shelve.nd rfl (Or.inl rfl))) (fun _ _ _ _ _ => pts_nil) (fun _ _ _ _ _ => (pe_ix ix_tup (pv 8) (pe_int) (fun _ _ => rfl)))) rfl) (pss_one (ps_ret (pe_str))) pss_nil)
      (pss_cons (ps_if (pt_cmpR op_eq (pv 1) (pe_str) (nomark _)) (pss_cons (ps_expr (pe_cf G_law_lose (hr.mono (by decide)) (by rfl) S.glo__law_lose px (pa_cons (pv 0) (pa_cons (pv 2) pa_nil))))
      (pss_one (ps_ret (pe_non)))) pss_nil)
      (pss_cons (ps_asg (pe_dget hu (pe_dget hu (pv 0) (pe_str) (fun _ _ => rfl)) (pv 2) (fun _ _ => rfl)) (pg_tup rfl (pgs_cons (pg_name (i := 4) sc_law_shelve.nd rfl (Or.inl rfl)) (pgs_cons (pg_name (i := 5) sc_law_shelve.nd rfl (Or.inl rfl)) (pgs_cons (pg_name (i := 6) sc_law_shelve.nd rfl (Or.inl rfl)) (pgs_cons (pg_name (i := 7) sc_law_shelve.nd rfl (Or.inl rfl)) pgs_nil))))))
      (pss_cons (ps_if (pt_not (pt_val (pe_cf G_law_there (hr.mono (by decide)) (by rfl) S.glo__law_there px (pa_cons (pv 0) (pa_cons (pv 4) pa_nil))))) (pss_one (ps_set (i := 4) sc_law_shelve.nd rfl (Or.inl rfl) (pe_non))) pss_nil)
      (pss_cons (ps_dput hu (pe_dget hu (pv 0) (pe_str) (fun _ _ => rfl)) (pv 2) (pe_tup (pa_cons (pv 4) (pa_cons (pe_cf G_law_free (hr.mono (by decide)) (by rfl) S.glo__law_free px (pa_cons (pv 0) (pa_cons (pv 4) (pa_cons (pv 5) pa_nil)))) (pa_cons (pv 6) (pa_cons (pv 7) pa_nil))))) rfl)
      (pss_cons (ps_for (passes_of rfl) rfl (pi_list (pe_callTy (call_list_dK rfl) (by rfl) S.free_list (by decide +kernel) (pa_cons (pe_dget hu (pv 0) (pe_str) (fun _ _ => rfl)) pa_nil))) (pg_name (i := 3) sc_law_shelve.nd rfl (Or.inl rfl)) (pss_one (ps_if (pt_cmpR op_eq (pe_ix ix_tup (pe_dget hu (pe_dget hu (pv 0) (pe_str) (fun _ _ => rfl)) (pv 3) (fun _ _ => rfl)) (pe_int) (fun _ _ => rfl)) (pv 2) (nomark _)) (pss_one (ps_dput hu (pe_dget hu (pv 0) (pe_str) (fun _ _ => rfl)) (pv 3) (pe_op op_catT (pe_slice sl_tup (pe_dget hu (pe_dget hu (pv 0) (pe_str) (fun _ _ => rfl)) (pv 3) (fun _ _ => rfl)) po_none (po_some (pe_int))) (pe_tup (pa_cons (pe_non) pa_nil))) rfl)) pss_nil)))
      (pss_cons (ps_dput hu (pv 0) (pe_str) (pe_lc (own := [("row", 8)]) (g := (gName 8)) (tt := (tTest (tOp rNe (tOp (rIxT K) (tVar 8) (tC (.int 0))) (tVar 2)))) (te := (tVar 8)) rfl sc_law_shelve.nd (pi_list (pe_dget hu (pv 0) (pe_str) (fun _ _ => rfl))) (blkOk_by (N := ["state", "word", "number", "one", "parent", "name", "text", "mark", "row"]) (sc := defScope s_law_shelve) (by decide +kernel)) (fun _ _ _ _ _ => (pg_name (i := 8) sc_law_shelve.nd rfl (Or.inl rfl))) (fun _ _ _ _ _ => (pts_one (pt_cmpR op_ne (pe_ix ix_tup (pv 8) (pe_int) (fun _ _ => rfl)) (pv 2) (nomark _)))) (fun _ _ _ _ _ => (pv 8))) rfl)
      (pss_one (ps_ret (pe_non))))))))))), ?_⟩
      refine go_when (b := false) (eb_eqS rfl (by decide +kernel)) (fun q => by cases q) (fun _ => ?_)
      refine go_when (b := !decide (n ∈ h.casts.map (·.1))) ?_ (fun c => ?_) (fun c => ?_)
      · refine eb_is (eb_test (ev_op (ev_var rfl) (?_ : EvD _ _ H (.lst ((h.casts.map (·.1)).map D.int))) (op_inL rfl (ints_flat _)))) (by rw [ints_val]; exact oMem_neg _ _)
        rw [← map_pairs_fst]
        exact ev_lcP _ (ev_is (s_casts x.rd (ev_var rfl)) rfl) (by show h.casts.length < _; omega) (fun p hp => eb_yes) (fun p hp y hy => by cases hy; exact ⟨ev_op (ev_var rfl) ev_int (op_ixT (i := 0) rfl), rfl⟩)
      · have c' : n ∉ h.casts.map (·.1) := by simpa using c
        have : h.goneO n = .err "NoCast" := by
          unfold HS.goneO
          rw [if_neg c']
        rw [this] at hres
        cases hres
        exact go_ret (ev_is ev_str (congrArg D.str w_NoCast.symm)) fun v H1 e hv => k v H1 G (x.mono e) (Fr.of_ex e) SFresh.refl hv
      · have hc : n ∈ h.casts.map (·.1) := by simpa using c
        have : h.goneO n = .ok .non (h.loseH n) := by
          unfold HS.goneO
          rw [if_pos hc]
        rw [this] at hres
        cases hres
        refine go_when (b := true) (eb_eqS rfl (by decide +kernel)) (fun _ => ?_) (fun q => by cases q)
        intro σ H1 e n1
        refine w_s (d := .int (h.bundle n).length) (s' := (h.loseH n).abs) x (ea_cons (ev_var rfl) (ea_cons (ev_var rfl) ea_nil)) rfl ⟨h, n, rfl, ok, rfl, rfl, rfl⟩ e n1 fun v H2 G2 x2 r2 f2 hv => ?_
        exact (go_ret (E := { nx := fun _ H' => Q .non H', rt := Q }) (ds := [none, none, none, none, none, none, none, none, none]) ev_non fun v H3 e3 hv => k v H3 G2 (x2.mono e3) ((Fr.ex_trans e r2).trans_ex e3) (SFresh.ex e f2) hv) σ H2 (Same.refl _) (by
          have := n1.len
          match σ, this with
          | [_, _, _, _, _, _, _, _, _], _ => exact trivial)
end Cs
set_option Elab.async false
set_option linter.all false
set_option maxRecDepth 100000
set_option maxHeartbeats 4000000
namespace Cs
open PySem PySem.Spec PyProof.Rows L2
theorem back_sh {h : HS} {n k : Int} {r : Row} : get (h.backH n r).shelved k = if k ∈ h.bundle n then none else get h.shelved k := get_without
theorem HInv.back {h : HS} {b : Nat} (i : HInv h b) (hb : b < 64) {n : Int} {r : Row} (hc : n ∈ h.casts.map (·.1)) (hr : get h.rows n = some r) : HInv (h.backH n r) (b + 1) := by
  have hsn : get h.shelved n = some n := i.cr n hc
  have hnb : n ∈ h.bundle n := mem_bundle.mpr hsn
  have hk : (h.backH n r).keys = h.keys := keys_put_old (by rw [hr]; rfl)
  have nl : (h.namesIn (h.backPar r.par) none).length < 70 := by
    have := names_len h (h.backPar r.par) none
    have := i.rl
    omega
  have hpar : ∀ {p : Int}, h.backPar r.par = some p → r.par = some p ∧ h.there p = true := fun {p} e => by
    unfold HS.backPar at e
    split at e
    · cases e
    · rename_i c
      rw [e] at c
      exact ⟨e, by simpa [HS.goneP] using c⟩
  have hg : ∀ {k : Int} {q : Row}, get (h.backH n r).rows k = some q → (k = n ∧ q = ⟨h.backPar r.par, freeV r.name (h.namesIn (h.backPar r.par) none), r.text⟩) ∨ (k ≠ n ∧ get h.rows k = some q) := fun {k q} z => by
    have z' : (if k = n then some ⟨h.backPar r.par, freeV r.name (h.namesIn (h.backPar r.par) none), r.text⟩ else get h.rows k) = some q := by rw [← get_put]; exact z
    by_cases e : k = n
    · rw [if_pos e] at z'
      cases z'
      exact .inl ⟨e, rfl⟩
    · rw [if_neg e] at z'
      exact .inr ⟨e, z'⟩
  have lift : ∀ {p : Int} {r' : Row}, get h.rows p = some r' → r'.text = none → ∃ r2, get (h.backH n r).rows p = some r2 ∧ r2.text = none := fun {p r'} z tx => by
    by_cases e : p = n
    · subst e
      rw [hr] at z
      cases z
      exact ⟨_, get_put_self, tx⟩
    · exact ⟨r', by show get (put h.rows n _) p = _; rw [get_put_ne e]; exact z, tx⟩
  have nbs : ∀ {k : Int}, k ∉ h.bundle n → get (h.backH n r).shelved k = get h.shelved k := fun q => by rw [back_sh, if_neg q]
  have ibs : ∀ {k : Int}, k ∈ h.bundle n → get (h.backH n r).shelved k = none := fun q => by rw [back_sh, if_pos q]
  refine ⟨?_, by rw [hk]; exact i.kn, by rw [hk]; exact i.kb, i.c0, i.sn.sublist (without_sub _ _), fun k hk' => by rw [hk]; exact i.sub k (without_keys.mp hk').1, i.cn.sublist (List.filter_sublist.map _), fun m hm => ?_, fun k m hkm => ?_, i.pn, by rw [hk]; exact i.pe, ?_, ?_, ?_, ?_, ?_, ?_⟩
  · have : (h.backH n r).keys.length = h.keys.length := by rw [hk]
    simp only [HS.keys, List.length_map] at this
    have := i.rl
    show (h.backH n r).rows.length ≤ b + 1
    omega
  · obtain ⟨h1, h2⟩ := lose_casts (h := h).mp hm
    have hs := i.cr m h1
    rw [nbs fun q => h2 (by rw [mem_bundle, hs] at q; exact Option.some.inj q)]
    exact hs
  · rw [back_sh] at hkm
    split at hkm
    · cases hkm
    · rename_i c
      exact lose_casts (h := h).mpr ⟨i.cs k m hkm, fun q => c (mem_bundle.mpr (q ▸ hkm))⟩
  · intro k q hq
    rcases hg hq with ⟨_, rfl⟩ | ⟨_, z⟩
    · have h1 := free_len r.name nl
      have h2 := i.nm n r hr
      show (freeV r.name _).length ≤ _
      omega
    · have := i.nm k q z
      omega
  · intro k q x hq hqx
    rcases hg hq with ⟨_, rfl⟩ | ⟨_, z⟩
    · exact i.tx n r x hr hqx
    · exact i.tx k q x z hqx
  · intro k q p hq hqp hs
    rcases hg hq with ⟨rfl, rfl⟩ | ⟨e, z⟩
    · obtain ⟨h1, h2⟩ := hpar hqp
      obtain ⟨rp, hrp⟩ := there_row h2
      have hps := there_none h2
      have hpb : p ∉ h.bundle k := fun q => by rw [mem_bundle, hps] at q; cases q
      obtain ⟨r2, g1, g2⟩ := lift hrp (i.bx k r p rp hr h1 hrp)
      exact ⟨r2, g1, g2, by rw [nbs hpb, ibs hnb]; exact hps⟩
    · by_cases c : k ∈ h.bundle n
      · have hks := mem_bundle.mp c
        obtain ⟨r', h1, h2, h3⟩ := i.pr k q p z hqp (by rw [hks]; exact fun w => e (Option.some.inj w).symm)
        obtain ⟨r2, g1, g2⟩ := lift h1 h2
        exact ⟨r2, g1, g2, by rw [ibs c, ibs (mem_bundle.mpr (h3.trans hks))]⟩
      · rw [nbs c] at hs
        obtain ⟨r', h1, h2, h3⟩ := i.pr k q p z hqp hs
        obtain ⟨r2, g1, g2⟩ := lift h1 h2
        have hpb : p ∉ h.bundle n := fun w => c (mem_bundle.mpr (h3.symm.trans (mem_bundle.mp w)))
        exact ⟨r2, g1, g2, by rw [nbs c, nbs hpb]; exact h3⟩
  · obtain ⟨rank, hrk⟩ := i.ac
    refine ⟨fun k => if k ∈ h.bundle n then rank k + (h.backPar r.par).elim 0 (fun p => rank p + 1) else rank k, fun k q p hq hqp hpk hsh => ?_⟩
    rw [hk] at hpk
    dsimp only
    rcases hg hq with ⟨rfl, rfl⟩ | ⟨e, z⟩
    · obtain ⟨h1, h2⟩ := hpar hqp
      have hps := there_none h2
      have hpb : p ∉ h.bundle k := fun q => by rw [mem_bundle, hps] at q; cases q
      rw [if_neg hpb, if_pos hnb, show h.backPar r.par = some p from hqp]
      show rank p < rank k + (rank p + 1)
      omega
    · by_cases c : k ∈ h.bundle n
      · have hks := mem_bundle.mp c
        obtain ⟨r', h1, h2, h3⟩ := i.pr k q p z hqp (by rw [hks]; exact fun w => e (Option.some.inj w).symm)
        rw [if_pos c, if_pos (mem_bundle.mpr (h3.trans hks))]
        have := hrk k q p z hqp hpk h3
        omega
      · rw [nbs c] at hsh
        by_cases d : p ∈ h.bundle n
        · exfalso
          rw [ibs d] at hsh
          obtain ⟨r', h1, h2, h3⟩ := i.pr k q p z hqp (by rw [← hsh]; exact fun w => by cases w)
          rw [mem_bundle.mp d, ← hsh] at h3
          cases h3
        · rw [nbs d] at hsh
          rw [if_neg c, if_neg d]
          exact hrk k q p z hqp hpk hsh
  · intro k q p hq hqp
    rcases hg hq with ⟨_, rfl⟩ | ⟨_, z⟩
    · exact i.pb n r p hr (hpar hqp).1
    · exact i.pb k q p z hqp
  · intro k q p q' hq hqp hq'
    have base : ∀ r0, get h.rows p = some r0 → r0.text = none := fun r0 h0 => by
      rcases hg hq with ⟨_, rfl⟩ | ⟨_, z⟩
      · exact i.bx n r p r0 hr (hpar hqp).1 h0
      · exact i.bx k q p r0 z hqp h0
    rcases hg hq' with ⟨rfl, rfl⟩ | ⟨_, z'⟩
    · exact base r hr
    · exact base q' z'
theorem HInv.pairs {h : HS} {b : Nat} (i : HInv h b) {ps : List (Int × Int)} (hn : ps.Nodup) (hp : ∀ q ∈ ps, q.1 ∈ h.keys ∧ q.2 ∈ h.keys) : HInv { h with pairs := ps } b := ⟨i.rl, i.kn, i.kb, i.c0, i.sn, i.sub, i.cn, i.cr, i.cs, hn, hp, i.nm, i.tx, i.pr, i.ac, i.pb, i.bx⟩
theorem there_key {h : HS} {n : Int} (ht : h.there n = true) : n ∈ h.keys := let ⟨_, hr⟩ := there_row ht; get_key hr
theorem HInv.loseAll {b : Nat} : ∀ {ns : List Int} {h : HS}, HInv h b → HInv (loseAll h ns) b := by
  intro ns
  induction ns with
  | nil => intro h i; exact i
  | cons n r ih => intro h i; exact ih (i.lose n)
theorem tie_inv {h h' : HS} {b : Nat} (i : HInv h b) {x y : Int} {d : D} (e : h.tieO x y = .ok d h') : HInv h' b ∧ d = .non := by
  unfold HS.tieO at e
  split at e
  · rename_i c1
    split at e
    · rename_i c2
      split at e
      · cases e
      · split at e
        · cases e
          exact ⟨i, rfl⟩
        · rename_i c4
          cases e
          refine ⟨i.pairs (List.nodup_append.mpr ⟨i.pn, by simp, fun p hp q hq => ?_⟩) fun q hq => ?_, rfl⟩
          · simp only [List.mem_cons, List.not_mem_nil, or_false] at hq
            rw [hq]
            exact fun w => c4 (w ▸ hp)
          · rcases List.mem_append.mp hq with w | w
            · exact i.pe q w
            · simp only [List.mem_cons, List.not_mem_nil, or_false] at w
              rw [w]
              exact ⟨there_key c1, there_key c2⟩
    · cases e
  · cases e
theorem untie_inv {h h' : HS} {b : Nat} (i : HInv h b) {x y : Int} {d : D} (e : h.untieO x y = .ok d h') : HInv h' b ∧ d = .non := by
  unfold HS.untieO at e
  split at e
  · split at e
    · split at e
      · cases e
        exact ⟨i.pairs (i.pn.sublist List.erase_sublist) fun q hq => i.pe q (List.mem_of_mem_erase hq), rfl⟩
      · cases e
    · cases e
  · cases e
end Cs
set_option Elab.async false
set_option linter.all false
set_option maxRecDepth 100000
set_option maxHeartbeats 4000000
namespace Cs
open PySem PySem.Spec PyProof.Rows L2
/-- which deeds this text speaks of -/
def okDeed : Deed → Bool
  | .make _ _ _ => true
  | .rename _ _ => true
  | .move _ _ => true
  | .tie _ _ => true
  | .untie _ _ => true
  | .back _ => true
  | .gone _ => true
  | .cast _ => true
  | .empty => true
  | .next_day => true
  | _ => false
noncomputable def HS.doO (h : HS) : Deed → Out
  | .make par nm b => h.makeO par nm b
  | .rename n nm => h.renameO n nm
  | .move n par => h.moveO n par
  | .tie a b => h.tieO a b
  | .untie a b => h.untieO a b
  | .back n => h.backO n
  | .gone n => h.goneO n
  | .cast n => h.castO n
  | .empty => h.emptyO
  | .next_day => h.nextO
  | _ => .err "NoThing"
theorem Says.exm {K : PySem.W.Frag} {mg : Str → Option Value} (S : Says K mg) {x : Str} (h : x ∈ excs) : PySem.W.exmOne K (.ref (He.ga K x)) (.ref (He.ga K "HouseError")) = some true := by
  simp only [excs, List.mem_cons, List.not_mem_nil, or_false] at h
  rcases h with rfl | rfl | rfl | rfl | rfl | rfl | rfl | rfl | rfl
  · exact S.exm_NoThing
  · exact S.exm_NoBox
  · exact S.exm_NoSheet
  · exact S.exm_Taken
  · exact S.exm_Inside
  · exact S.exm_NoRoom
  · exact S.exm_Same
  · exact S.exm_NoTie
  · exact S.exm_NoCast
def okAt (h : HS) : Deed → Prop
  | .make _ nm _ => nm.length ≤ 3
  | .rename _ nm => nm.length ≤ 3
  | .write _ tx => tx.length ≤ 1000
  | _ => True
def HS.preD (h : HS) (dd : Deed) : Prop := okAt h dd ∧ ∃ b, HInv h b ∧ b < 64
theorem HS.preD.rl {h : HS} {dd : Deed} (q : h.preD dd) : h.rows.length < 64 := let ⟨_, _, i, hb⟩ := q; Nat.lt_of_le_of_lt i.rl hb
theorem HS.preD.kn {h : HS} {dd : Deed} (q : h.preD dd) : h.keys.Nodup := let ⟨_, _, i, hb⟩ := q; i.kn
theorem go_retIf {ds : List (Option D)} {H : Hp} {t : TT} {ta tb : TE} {E : Ends} {b : Bool} (h : EvB t ds H b) (h1 : b = true → Go (tRet ta) ds H E) (h2 : b = false → Go (tRet tb) ds H E) : Go (tRet (tIf t ta tb)) ds H E := fun σ H1 e n =>
  h σ H1 e n _ fun H2 e2 => by
    cases b with
    | true => exact iteT (h1 rfl σ H2 (e.trans e2) (n.mono e2))
    | false => exact iteF (h2 rfl σ H2 (e.trans e2) (n.mono e2))
def sp_law_call (K : PySem.W.Frag) : Sp := wsp K fun h as o => ∃ dd, as = [dd.d] ∧ okDeed dd = true ∧ h.preD dd ∧ o = h.doO dd
theorem ok_law_call {P : Program} {w : World} {K : PySem.W.Frag} {mg : Str → Option Value} {base : Heap} (S : Says K mg) : Fk P w K mg base 5 (He.fAd K ("_law_call", none)) ["house", "deed"] (sp_law_call K) := by
  have G_House_empty := ok_House_empty (P := P) (w := w) (base := base) S
  have G_House_next_day := ok_House_next_day (P := P) (w := w) (base := base) S
  have G_House_back := ok_House_back (P := P) (w := w) (base := base) S
  have G_House_gone := ok_House_gone (P := P) (w := w) (base := base) S
  have G_House_cast := ok_House_cast (P := P) (w := w) (base := base) S
  have G_House_tie := ok_House_tie (P := P) (w := w) (base := base) S
  have G_House_untie := ok_House_untie (P := P) (w := w) (base := base) S
  have G_House_move := ok_House_move (P := P) (w := w) (base := base) S
  have G_House_rename := ok_House_rename (P := P) (w := w) (base := base) S
  have G_House_make := ok_House_make (P := P) (w := w) (base := base) S
  refine mk_w S.df_law_call sc_law_call ?_ (by decide) fun cdv A outer s H H0 Q E p F h as o bd pa x hp k1 k2 => ?_
  · rintro h as o ⟨dd, rfl, _⟩
    rfl
  · obtain ⟨dd, rfl, hok, hpre, rfl⟩ := hp
    obtain ⟨hr, tk, px, hu, hu65⟩ := bd
    refine ⟨_, (pss_cons (ps_par (by rfl) sc_law_call.nd (i := 2) (j := 3) rfl rfl (by decide) rfl rfl (pa_cons (pe_ix ix_tup (pv 1) (pe_int) (fun _ _ => rfl)) (pa_cons (pe_slice sl_tup (pv 1) (po_some (pe_int)) po_none) pa_nil)) (by rfl))
      (pss_cons (ps_if (pt_cmpR op_eq (pv 2) (pe_str) (nomark _)) (pss_one (ps_ret (pe_mt (pv 0) S.cls_House S.meth_make G_House_make (hr.mono (by decide)) px (pa_cons (pe_ix ix_tup (pv 3) (pe_int) (fun _ _ => rfl)) (pa_cons (pe_ix ix_tup (pv 3) (pe_int) (fun _ _ => rfl)) (pa_cons (pe_ix ix_tup (pv 3) (pe_int) (fun _ _ => rfl)) pa_nil)))))) pss_nil)
      (pss_cons (ps_if (pt_cmpR op_in_seq (pv 2) (pe_tup (pa_cons (pe_str) (pa_cons (pe_str) (pa_cons (pe_str) (pa_cons (pe_str) pa_nil))))) rfl) (pss_cons (ps_asg (pv 3) (pg_tup rfl (pgs_cons (pg_name (i := 4) sc_law_call.nd rfl (Or.inl rfl)) (pgs_cons (pg_name (i := 5) sc_law_call.nd rfl (Or.inl rfl)) pgs_nil))))
      (pss_cons (ps_if (pt_cmpR op_eq (pv 2) (pe_str) (nomark _)) (pss_one (ps_ret (pe_mt (pv 0) S.cls_House S.meth_rename G_House_rename (hr.mono (by decide)) px (pa_cons (pv 4) (pa_cons (pv 5) pa_nil))))) pss_nil)
      (pss_cons (ps_if (pt_cmpR op_eq (pv 2) (pe_str) (nomark _)) (pss_one (ps_ret (pe_mt (pv 0) S.cls_House S.meth_move G_House_move (hr.mono (by decide)) px (pa_cons (pv 4) (pa_cons (pv 5) pa_nil))))) pss_nil)
      (pss_one ps_never)))) pss_nil)
      (pss_cons (ps_if (pt_cmpR op_in_seq (pv 2) (pe_tup (pa_cons (pe_str) (pa_cons (pe_str) pa_nil))) rfl) (pss_one (ps_ret (pe_ifExp (pt_cmpR op_eq (pv 2) (pe_str) (nomark _)) (pe_mt (pv 0) S.cls_House S.meth_tie G_House_tie (hr.mono (by decide)) px (pa_cons (pe_ix ix_tup (pv 3) (pe_int) (fun _ _ => rfl)) (pa_cons (pe_ix ix_tup (pv 3) (pe_int) (fun _ _ => rfl)) pa_nil))) (pe_mt (pv 0) S.cls_House S.meth_untie G_House_untie (hr.mono (by decide)) px (pa_cons (pe_ix ix_tup (pv 3) (pe_int) (fun _ _ => rfl)) (pa_cons (pe_ix ix_tup (pv 3) (pe_int) (fun _ _ => rfl)) pa_nil)))))) pss_nil)
      (pss_cons (ps_if (pt_cmpR op_in_seq (pv 2) (pe_tup (pa_cons (pe_str) (pa_cons (pe_str) (pa_cons (pe_str) pa_nil)))) rfl) (pss_cons (ps_if (pt_cmpR op_eq (pv 2) (pe_str) (nomark _)) (pss_one (ps_ret (pe_mt (pv 0) S.cls_House S.meth_cast G_House_cast (hr.mono (by decide)) px (pa_cons (pe_ix ix_tup (pv 3) (pe_int) (fun _ _ => rfl)) pa_nil)))) pss_nil)
      (pss_one (ps_ret (pe_ifExp (pt_cmpR op_eq (pv 2) (pe_str) (nomark _)) (pe_mt (pv 0) S.cls_House S.meth_back G_House_back (hr.mono (by decide)) px (pa_cons (pe_ix ix_tup (pv 3) (pe_int) (fun _ _ => rfl)) pa_nil)) (pe_mt (pv 0) S.cls_House S.meth_gone G_House_gone (hr.mono (by decide)) px (pa_cons (pe_ix ix_tup (pv 3) (pe_int) (fun _ _ => rfl)) pa_nil)))))) pss_nil)
      (pss_one (ps_ret (pe_ifExp (pt_cmpR op_eq (pv 2) (pe_str) (nomark _)) (pe_mt0 (pv 0) S.cls_House S.meth_empty G_House_empty (hr.mono (by decide)) px) (pe_mt0 (pv 0) S.cls_House S.meth_next_day G_House_next_day (hr.mono (by decide)) px))))))))), ?_⟩
    cases dd with
    | make par nm b =>
      refine go_par (ea_cons (ev_op (ev_var rfl) ev_int (op_ixT (i := 0) rfl)) (ea_cons (ev_tail (ev_var rfl)) ea_nil)) ?_
      refine go_when (b := true) (eb_eqS rfl (by decide +kernel)) (fun _ => ?_) (fun q => by cases q)
      exact go_retW x rfl (ev_var rfl) (ea_cons (ev_op (ev_var rfl) ev_int (op_ixT (i := 0) rfl)) (ea_cons (ev_op (ev_var rfl) ev_int (op_ixT (i := 1) rfl)) (ea_cons (ev_op (ev_var rfl) ev_int (op_ixT (i := 2) rfl)) ea_nil))) (by cases par <;> rfl) ⟨par, nm, b, rfl, hpre.rl, rfl⟩ (fun d h' hd v H2 F' y r f hv => k1 d h' hd v H2 F' y r f hv) k2
    | rename n nm =>
      refine go_par (ea_cons (ev_op (ev_var rfl) ev_int (op_ixT (i := 0) rfl)) (ea_cons (ev_tail (ev_var rfl)) ea_nil)) ?_
      refine go_when (b := false) (eb_eqS rfl (by decide +kernel)) (fun q => by cases q) (fun _ => ?_)
      refine go_when (b := true) (eb_inS (bs := ["rename", "move", "write", "copy"]) rfl (ea_cons ev_str (ea_cons ev_str (ea_cons ev_str (ea_cons ev_str ea_nil)))) (by decide) (by decide +kernel)) (fun _ => ?_) (fun q => by cases q)
      refine go_un2 (ev_var rfl) (go_when (b := true) (eb_eqS rfl (by decide +kernel)) (fun _ => ?_) (fun q => by cases q))
      exact go_retW x rfl (ev_var rfl) (ea_cons (ev_var rfl) (ea_cons (ev_var rfl) ea_nil)) rfl ⟨n, nm, rfl, hpre.rl, rfl⟩ (fun d h' hd v H2 F' y r f hv => k1 d h' hd v H2 F' y r f hv) k2
    | move n par =>
      refine go_par (ea_cons (ev_op (ev_var rfl) ev_int (op_ixT (i := 0) rfl)) (ea_cons (ev_tail (ev_var rfl)) ea_nil)) ?_
      refine go_when (b := false) (eb_eqS rfl (by decide +kernel)) (fun q => by cases q) (fun _ => ?_)
      refine go_when (b := true) (eb_inS (bs := ["rename", "move", "write", "copy"]) rfl (ea_cons ev_str (ea_cons ev_str (ea_cons ev_str (ea_cons ev_str ea_nil)))) (by decide) (by decide +kernel)) (fun _ => ?_) (fun q => by cases q)
      refine go_un2 (ev_var rfl) (go_when (b := false) (eb_eqS rfl (by decide +kernel)) (fun q => by cases q) (fun _ => ?_))
      refine go_when (b := true) (eb_eqS rfl (by decide +kernel)) (fun _ => ?_) (fun q => by cases q)
      exact go_retW x rfl (ev_var rfl) (ea_cons (ev_var rfl) (ea_cons (ev_var rfl) ea_nil)) (by cases par <;> rfl) ⟨n, par, rfl, hpre.rl, hpre.kn, rfl⟩ (fun d h' hd v H2 F' y r f hv => k1 d h' hd v H2 F' y r f hv) k2
    | tie a b =>
      refine go_par (ea_cons (ev_op (ev_var rfl) ev_int (op_ixT (i := 0) rfl)) (ea_cons (ev_tail (ev_var rfl)) ea_nil)) ?_
      refine go_when (b := false) (eb_eqS rfl (by decide +kernel)) (fun q => by cases q) (fun _ => ?_)
      refine go_when (b := false) (eb_inS (bs := ["rename", "move", "write", "copy"]) rfl (ea_cons ev_str (ea_cons ev_str (ea_cons ev_str (ea_cons ev_str ea_nil)))) (by decide) (by decide +kernel)) (fun q => by cases q) (fun _ => ?_)
      refine go_when (b := true) (eb_inS (bs := ["tie", "untie"]) rfl (ea_cons ev_str (ea_cons ev_str ea_nil)) (by decide) (by decide +kernel)) (fun _ => ?_) (fun q => by cases q)
      refine go_retIf (b := true) (eb_eqS rfl (by decide +kernel)) (fun _ => ?_) (fun q => by cases q)
      exact go_retW x rfl (ev_var rfl) (ea_cons (ev_op (ev_var rfl) ev_int (op_ixT (i := 0) rfl)) (ea_cons (ev_op (ev_var rfl) ev_int (op_ixT (i := 1) rfl)) ea_nil)) rfl ⟨a, b, rfl, hpre.2, rfl⟩ (fun d h' hd v H2 F' y r f hv => k1 d h' hd v H2 F' y r f hv) k2
    | untie a b =>
      refine go_par (ea_cons (ev_op (ev_var rfl) ev_int (op_ixT (i := 0) rfl)) (ea_cons (ev_tail (ev_var rfl)) ea_nil)) ?_
      refine go_when (b := false) (eb_eqS rfl (by decide +kernel)) (fun q => by cases q) (fun _ => ?_)
      refine go_when (b := false) (eb_inS (bs := ["rename", "move", "write", "copy"]) rfl (ea_cons ev_str (ea_cons ev_str (ea_cons ev_str (ea_cons ev_str ea_nil)))) (by decide) (by decide +kernel)) (fun q => by cases q) (fun _ => ?_)
      refine go_when (b := true) (eb_inS (bs := ["tie", "untie"]) rfl (ea_cons ev_str (ea_cons ev_str ea_nil)) (by decide) (by decide +kernel)) (fun _ => ?_) (fun q => by cases q)
      refine go_retIf (b := false) (eb_eqS rfl (by decide +kernel)) (fun q => by cases q) (fun _ => ?_)
      exact go_retW x rfl (ev_var rfl) (ea_cons (ev_op (ev_var rfl) ev_int (op_ixT (i := 0) rfl)) (ea_cons (ev_op (ev_var rfl) ev_int (op_ixT (i := 1) rfl)) ea_nil)) rfl ⟨a, b, rfl, hpre.2, rfl⟩ (fun d h' hd v H2 F' y r f hv => k1 d h' hd v H2 F' y r f hv) k2
    | cast n =>
      refine go_par (ea_cons (ev_op (ev_var rfl) ev_int (op_ixT (i := 0) rfl)) (ea_cons (ev_tail (ev_var rfl)) ea_nil)) ?_
      refine go_when (b := false) (eb_eqS rfl (by decide +kernel)) (fun q => by cases q) (fun _ => ?_)
      refine go_when (b := false) (eb_inS (bs := ["rename", "move", "write", "copy"]) rfl (ea_cons ev_str (ea_cons ev_str (ea_cons ev_str (ea_cons ev_str ea_nil)))) (by decide) (by decide +kernel)) (fun q => by cases q) (fun _ => ?_)
      refine go_when (b := false) (eb_inS (bs := ["tie", "untie"]) rfl (ea_cons ev_str (ea_cons ev_str ea_nil)) (by decide) (by decide +kernel)) (fun q => by cases q) (fun _ => ?_)
      refine go_when (b := true) (eb_inS (bs := ["cast", "back", "gone"]) rfl (ea_cons ev_str (ea_cons ev_str (ea_cons ev_str ea_nil))) (by decide) (by decide +kernel)) (fun _ => ?_) (fun q => by cases q)
      refine go_when (b := true) (eb_eqS rfl (by decide +kernel)) (fun _ => ?_) (fun q => by cases q)
      exact go_retW x rfl (ev_var rfl) (ea_cons (ev_op (ev_var rfl) ev_int (op_ixT (i := 0) rfl)) ea_nil) rfl ⟨n, rfl, hpre.2, rfl⟩ (fun d h' hd v H2 F' y r f hv => k1 d h' hd v H2 F' y r f hv) k2
    | back n =>
      refine go_par (ea_cons (ev_op (ev_var rfl) ev_int (op_ixT (i := 0) rfl)) (ea_cons (ev_tail (ev_var rfl)) ea_nil)) ?_
      refine go_when (b := false) (eb_eqS rfl (by decide +kernel)) (fun q => by cases q) (fun _ => ?_)
      refine go_when (b := false) (eb_inS (bs := ["rename", "move", "write", "copy"]) rfl (ea_cons ev_str (ea_cons ev_str (ea_cons ev_str (ea_cons ev_str ea_nil)))) (by decide) (by decide +kernel)) (fun q => by cases q) (fun _ => ?_)
      refine go_when (b := false) (eb_inS (bs := ["tie", "untie"]) rfl (ea_cons ev_str (ea_cons ev_str ea_nil)) (by decide) (by decide +kernel)) (fun q => by cases q) (fun _ => ?_)
      refine go_when (b := true) (eb_inS (bs := ["cast", "back", "gone"]) rfl (ea_cons ev_str (ea_cons ev_str (ea_cons ev_str ea_nil))) (by decide) (by decide +kernel)) (fun _ => ?_) (fun q => by cases q)
      refine go_when (b := false) (eb_eqS rfl (by decide +kernel)) (fun q => by cases q) (fun _ => ?_)
      refine go_retIf (b := true) (eb_eqS rfl (by decide +kernel)) (fun _ => ?_) (fun q => by cases q)
      exact go_retW x rfl (ev_var rfl) (ea_cons (ev_op (ev_var rfl) ev_int (op_ixT (i := 0) rfl)) ea_nil) rfl ⟨n, rfl, hpre.2, rfl⟩ (fun d h' hd v H2 F' y r f hv => k1 d h' hd v H2 F' y r f hv) k2
    | gone n =>
      refine go_par (ea_cons (ev_op (ev_var rfl) ev_int (op_ixT (i := 0) rfl)) (ea_cons (ev_tail (ev_var rfl)) ea_nil)) ?_
      refine go_when (b := false) (eb_eqS rfl (by decide +kernel)) (fun q => by cases q) (fun _ => ?_)
      refine go_when (b := false) (eb_inS (bs := ["rename", "move", "write", "copy"]) rfl (ea_cons ev_str (ea_cons ev_str (ea_cons ev_str (ea_cons ev_str ea_nil)))) (by decide) (by decide +kernel)) (fun q => by cases q) (fun _ => ?_)
      refine go_when (b := false) (eb_inS (bs := ["tie", "untie"]) rfl (ea_cons ev_str (ea_cons ev_str ea_nil)) (by decide) (by decide +kernel)) (fun q => by cases q) (fun _ => ?_)
      refine go_when (b := true) (eb_inS (bs := ["cast", "back", "gone"]) rfl (ea_cons ev_str (ea_cons ev_str (ea_cons ev_str ea_nil))) (by decide) (by decide +kernel)) (fun _ => ?_) (fun q => by cases q)
      refine go_when (b := false) (eb_eqS rfl (by decide +kernel)) (fun q => by cases q) (fun _ => ?_)
      refine go_retIf (b := false) (eb_eqS rfl (by decide +kernel)) (fun q => by cases q) (fun _ => ?_)
      exact go_retW x rfl (ev_var rfl) (ea_cons (ev_op (ev_var rfl) ev_int (op_ixT (i := 0) rfl)) ea_nil) rfl ⟨n, rfl, hpre.2, rfl⟩ (fun d h' hd v H2 F' y r f hv => k1 d h' hd v H2 F' y r f hv) k2
    | empty =>
      refine go_par (ea_cons (ev_op (ev_var rfl) ev_int (op_ixT (i := 0) rfl)) (ea_cons (ev_tail (ev_var rfl)) ea_nil)) ?_
      refine go_when (b := false) (eb_eqS rfl (by decide +kernel)) (fun q => by cases q) (fun _ => ?_)
      refine go_when (b := false) (eb_inS (bs := ["rename", "move", "write", "copy"]) rfl (ea_cons ev_str (ea_cons ev_str (ea_cons ev_str (ea_cons ev_str ea_nil)))) (by decide) (by decide +kernel)) (fun q => by cases q) (fun _ => ?_)
      refine go_when (b := false) (eb_inS (bs := ["tie", "untie"]) rfl (ea_cons ev_str (ea_cons ev_str ea_nil)) (by decide) (by decide +kernel)) (fun q => by cases q) (fun _ => ?_)
      refine go_when (b := false) (eb_inS (bs := ["cast", "back", "gone"]) rfl (ea_cons ev_str (ea_cons ev_str (ea_cons ev_str ea_nil))) (by decide) (by decide +kernel)) (fun q => by cases q) (fun _ => ?_)
      refine go_retIf (b := true) (eb_eqS rfl (by decide +kernel)) (fun _ => ?_) (fun q => by cases q)
      exact go_retW x rfl (ev_var rfl) ea_nil rfl ⟨rfl, hpre.2, rfl⟩ (fun d h' hd v H2 F' y r f hv => k1 d h' hd v H2 F' y r f hv) k2
    | next_day =>
      refine go_par (ea_cons (ev_op (ev_var rfl) ev_int (op_ixT (i := 0) rfl)) (ea_cons (ev_tail (ev_var rfl)) ea_nil)) ?_
      refine go_when (b := false) (eb_eqS rfl (by decide +kernel)) (fun q => by cases q) (fun _ => ?_)
      refine go_when (b := false) (eb_inS (bs := ["rename", "move", "write", "copy"]) rfl (ea_cons ev_str (ea_cons ev_str (ea_cons ev_str (ea_cons ev_str ea_nil)))) (by decide) (by decide +kernel)) (fun q => by cases q) (fun _ => ?_)
      refine go_when (b := false) (eb_inS (bs := ["tie", "untie"]) rfl (ea_cons ev_str (ea_cons ev_str ea_nil)) (by decide) (by decide +kernel)) (fun q => by cases q) (fun _ => ?_)
      refine go_when (b := false) (eb_inS (bs := ["cast", "back", "gone"]) rfl (ea_cons ev_str (ea_cons ev_str (ea_cons ev_str ea_nil))) (by decide) (by decide +kernel)) (fun q => by cases q) (fun _ => ?_)
      refine go_retIf (b := false) (eb_eqS rfl (by decide +kernel)) (fun q => by cases q) (fun _ => ?_)
      exact go_retW x rfl (ev_var rfl) ea_nil rfl ⟨rfl, hpre.2, rfl⟩ (fun d h' hd v H2 F' y r f hv => k1 d h' hd v H2 F' y r f hv) k2
    | _ => cases hok
noncomputable def HS.toldO (h : HS) (dd : Deed) : Out := match h.doO dd with
  | .ok d h' => .ok d h'
  | .err x => .ok (.str (wordOf x)) h
theorem doO_err {h : HS} {dd : Deed} {x : Str} (hok : okDeed dd = true) (e : h.doO dd = .err x) : x ∈ excs := by
  cases dd with
  | make par nm b =>
    simp only [HS.doO, HS.makeO] at e
    split at e
    · cases e; decide +kernel
    · split at e
      · cases e; decide +kernel
      · cases e
  | rename n nm =>
    simp only [HS.doO, HS.renameO] at e
    split at e
    · split at e
      · split at e
        · cases e; decide +kernel
        · cases e
      · cases e; decide +kernel
    · cases e; decide +kernel
  | move n par =>
    simp only [HS.doO, HS.moveO] at e
    split at e
    · split at e
      · cases e; decide +kernel
      · split at e
        · cases e; decide +kernel
        · split at e
          · split at e
            · cases e; decide +kernel
            · cases e
          · cases e; decide +kernel
    · cases e; decide +kernel
  | tie a b =>
    simp only [HS.doO, HS.tieO] at e
    split at e
    · split at e
      · split at e
        · cases e; decide +kernel
        · split at e <;> cases e
      · cases e; decide +kernel
    · cases e; decide +kernel
  | untie a b =>
    simp only [HS.doO, HS.untieO] at e
    split at e
    · split at e
      · split at e
        · cases e
        · cases e; decide +kernel
      · cases e; decide +kernel
    · cases e; decide +kernel
  | cast n =>
    simp only [HS.doO, HS.castO] at e
    split at e
    · cases e
    · cases e; decide +kernel
  | back n =>
    simp only [HS.doO, HS.backO] at e
    split at e
    · split at e
      · cases e
      · cases e; decide +kernel
    · cases e; decide +kernel
  | gone n =>
    simp only [HS.doO, HS.goneO] at e
    split at e
    · cases e
    · cases e; decide +kernel
  | empty => simp only [HS.doO, HS.emptyO] at e; cases e
  | next_day => simp only [HS.doO, HS.nextO] at e; cases e
  | _ => cases hok
def sp_law_told (K : PySem.W.Frag) : Sp := wsp K fun h as o => ∃ dd, as = [dd.d] ∧ okDeed dd = true ∧ h.preD dd ∧ o = h.toldO dd
theorem ok_law_told {P : Program} {w : World} {K : PySem.W.Frag} {mg : Str → Option Value} {base : Heap} (S : Says K mg) : Fk P w K mg base 6 (He.fAd K ("_law_told", none)) ["house", "deed"] (sp_law_told K) := by
  have G_law_word := ok_law_word (P := P) (w := w) (base := base) S
  have G_law_call := ok_law_call (P := P) (w := w) (base := base) S
  refine mk_w S.df_law_told sc_law_told ?_ (by decide) fun cdv A outer s H H0 Q E p F h as o bd pa x hp k1 k2 => ?_
  · rintro h as o ⟨dd, rfl, _⟩
    rfl
  · obtain ⟨dd, rfl, hok, hpre, rfl⟩ := hp
    obtain ⟨hr, tk, px, hu, hu65⟩ := bd
    refine ⟨_, (pss_cons (ps_set (i := 2) sc_law_told.nd rfl (Or.inl rfl) (pe_non))
      (pss_cons (ps_set (i := 3) sc_law_told.nd rfl (Or.inl rfl) (pe_non))
      (pss_cons (ps_try_keep (i := 4) (j := 2) rfl rfl rfl rfl sc_law_told.nd rfl rfl rfl rfl ⟨by rfl, by decide, .inl S.glo_HouseError⟩ ⟨by decide, by decide⟩ (fun W pn xe tk _ => (pss_one (ps_set (i := 3) sc_law_told.nd rfl (Or.inl rfl) (pe_cfS G_law_call (hr.mono (by decide)) (by rfl) S.glo__law_call tk (pa_cons (pv 0) (pa_cons (pv 1) pa_nil)))))) (fun a pn => pss_one (ps_set (i := 2) sc_law_told.nd rfl (Or.inl rfl) (pv 4))))
      (pss_one (ps_ret (pe_ifExp (pt_cmp (pc_isN (pv 2))) (pv 3) (pe_cf G_law_word (hr.mono (by decide)) (by rfl) S.glo__law_word px (pa_cons (pv 2) pa_nil)))))))), ?_⟩
    refine go_asg ev_non (go_asg ev_non ?_)
    intro σ H1 e n
    -- the call in the try
    have hargs : EvA (tCons (tVar 0) (tCons (tVar 1) tNil)) [some (.obj p), some dd.d, some .non, some .non, none] H [.obj p, dd.d] := ea_cons (ev_var rfl) (ea_cons (ev_var rfl) ea_nil)
    unfold tSeq tAsg tCallS
    dsimp only
    refine hargs σ H1 e n _ fun vs H2 e2 hv => ?_
    have x2 := x.mono (e.trans e2)
    have pd : D.pureL [dd.d] = true := by
      show (dd.d.pure && true) = true
      rw [dd.pure]
      rfl
    refine ⟨p, F, h, [dd.d], h.doO dd, hv, pd, x2, ⟨dd, rfl, hok, hpre, rfl⟩, fun d h' hd v H3 F' y r f hv' => ?_, fun z hz H3 e3 => ?_⟩
    · -- told
      have ho : h.toldO dd = .ok d h' := by
        unfold HS.toldO
        rw [hd]
      show (tRet _) _ (σ.set 3 (some v)) H3
      have n2 : EnvOk H2 σ [some (.obj p), none, some .non, none, none] := ((n.mono e2).forget 1).forget 3
      have n3 : EnvOk H3 (σ.set 3 (some v)) [some (.obj p), none, some .non, some d, none] := (x2.keepE r rfl n2).set hv' 3
      refine go_ret (d := d) (E := { nx := fun _ H' => Q .non H', rt := Q }) (ev_if (b := true) (eb_B (ev_isN (ev_var rfl) fun _ _ q => by cases (show _ = _ from q); rfl)) (fun _ => ev_var rfl) (fun q => by cases q)) (fun u H4 e4 hu => ?_) _ H3 (Same.refl _) n3
      exact k1 d h' ho u H4 F' (y.mono e4) ((Fr.ex_trans (e.trans e2) r).trans_ex e4) (Fresh.ex (e.trans e2) f) hu
    · -- refused
      have hx := doO_err hok hz
      have ho : h.toldO dd = .ok (.str (wordOf z)) h := by
        unfold HS.toldO
        rw [hz]
      refine ⟨S.exm hx, rfl, fun a ha => ?_⟩
      have ea : Ex H3 (upd H3 a (ExH (.ref (He.ga K z)) a)) := Ex.new ha
      have n3 : EnvOk (upd H3 a (ExH (.ref (He.ga K z)) a)) (((σ.set 4 (some (.ref a))).set 2 (some (.ref a))).set 4 none) [some (.obj p), some dd.d, some (.obj a), some .non, none] := ((((n.mono e2).mono e3).mono ea).clear 4 (some (.ref a))).set (d := .obj a) (v := .ref a) rfl 2 |>.clear 4 none
      dsimp only
      refine go_ret (d := .str (wordOf z)) (E := { nx := fun _ H' => Q .non H', rt := Q }) (ev_if (b := false) (eb_B (ev_isN (ev_var rfl) fun _ _ q => by cases (show _ = _ from q); rfl)) (fun q => by cases q) (fun _ => ev_call (ea_cons (ev_var rfl) ea_nil) (rsp_pr fun H' e' => ⟨a, z, rfl, e' _ _ upd_same, hx, rfl⟩))) (fun u H4 e4 hu => ?_) _ _ (Same.refl _) n3
      have ee := (((e.trans e2).trans e3).trans ea).trans e4
      exact k1 _ h ho u H4 F (x.mono ee) (Fr.of_ex ee) Fresh.refl hu
end Cs
set_option Elab.async false
set_option linter.all false
set_option maxRecDepth 100000
set_option maxHeartbeats 4000000
namespace Cs
open PySem PySem.Spec PyProof.Rows L2
theorem dep_T {n : Nat} {xs : List D} (hl : xs.length < 100000) (h : ∀ x ∈ xs, dep n x = true) : dep (n + 1) (.tup xs) = true := by
  unfold dep
  rw [decide_eq_true hl, depL_of h]
  rfl
theorem dep_flat {n : Nat} {d : D} (h : d.flat = true) : dep n d = true := by
  cases d <;> first | (unfold dep; rfl) | (cases n <;> (unfold dep; rfl)) | exact absurd h (by intro z; cases z)
theorem dep_row {n : Nat} (k : Int) (r : Row) : dep (n + 1) (rowD k r) = true := dep_T (by simp) fun x hx => by
  simp only [List.mem_cons, List.not_mem_nil, or_false] at hx
  rcases hx with rfl | rfl | rfl | rfl
  · exact dep_flat rfl
  · exact dep_flat (oI_flat _)
  · exact dep_flat rfl
  · exact dep_flat (oS_flat _)
theorem dep_ints {n : Nat} {ns : List Int} (h : ns.length < 100000) : dep (n + 1) (.tup (ns.map D.int)) = true := dep_T (by rw [List.length_map]; exact h) fun x hx => by
  obtain ⟨m, _, rfl⟩ := List.mem_map.mp hx
  exact dep_flat rfl
theorem dep_2 {n : Nat} {a b : D} (h1 : dep n a = true) (h2 : dep n b = true) : dep (n + 1) (.tup [a, b]) = true := dep_T (by simp) fun x hx => by
  simp only [List.mem_cons, List.not_mem_nil, or_false] at hx
  rcases hx with rfl | rfl
  · exact h1
  · exact h2
theorem things_row {h : HS} {y : D} (hy : y ∈ h.things) : ∃ n r, y = rowD n r ∧ h.there n = true ∧ get h.rows n = some r := by
  obtain ⟨n, _, e⟩ := List.mem_filterMap.mp hy
  split at e
  · rename_i c
    obtain ⟨r, hr⟩ := there_row c
    rw [hr] at e
    cases e
    exact ⟨n, r, rfl, c, hr⟩
  · cases e
theorem keys_len (h : HS) : (sortI h.keys).length = h.rows.length := by rw [sortI_len]; simp [HS.keys]
theorem things_len (h : HS) : h.things.length ≤ h.rows.length := by
  unfold HS.things
  exact Nat.le_trans (filterMap_len _ _) (by rw [keys_len]; exact Nat.le_refl _)
theorem bundle_le {h : HS} (n : Int) : (h.bundle n).length ≤ h.shelved.length := by
  unfold HS.bundle
  refine Nat.le_trans (List.length_filter_le _ _) ?_
  rw [sortI_len, List.length_map]
  exact Nat.le_refl _
theorem things_dep {h : HS} (w : WF h) : dep 4 (.tup h.things) = true := dep_T (by have := things_len h; have := w.rl; omega) fun x hx => by
  obtain ⟨n, r, rfl, _⟩ := things_row hx
  exact dep_row n r
theorem shelf_dep {h : HS} (w : WF h) : dep 4 (.tup h.shelf) = true := by
  rw [shelf_map w]
  have := w.cl
  refine dep_T (by rw [List.length_map]; omega) fun x hx => ?_
  obtain ⟨q, _, rfl⟩ := List.mem_map.mp hx
  refine dep_T (by simp) fun y hy => ?_
  simp only [List.mem_cons, List.not_mem_nil, or_false] at hy
  rcases hy with rfl | rfl | rfl | rfl <;> exact dep_flat rfl
theorem inner_eq {h : HS} (w : WF h) (n : Int) : ((sortI h.keys).filterMap fun k => if decide (get h.shelved k = some n) = true then (get h.rows k).map (rowD k) else none) = (h.bundle n).filterMap fun k => (get h.rows k).map (rowD k) := by
  rw [← bundle_eq w n, fm_filter]
theorem inner_dep {h : HS} (w : WF h) (n : Int) : dep 5 (.tup ((h.bundle n).filterMap fun k => (get h.rows k).map (rowD k))) = true := by
  refine dep_T ?_ fun x hx => ?_
  · have h1 := filterMap_len (fun k => (get h.rows k).map (rowD k)) (h.bundle n)
    have h2 := bundle_le (h := h) n
    have := w.sl
    omega
  · obtain ⟨k, _, e⟩ := List.mem_filterMap.mp hx
    cases e2 : get h.rows k with
    | none => rw [e2] at e; cases e
    | some r =>
      rw [e2] at e
      cases e
      exact dep_row k r
theorem ties_len (h : HS) (n : Int) : (h.ties n).length ≤ h.pairs.length := by
  unfold HS.ties
  rw [sortI_len, List.length_map]
  exact Nat.le_trans (List.length_filter_le _ _) (used_le h)
theorem comers_len (h : HS) (n : Int) : (h.comers n).length ≤ h.pairs.length := by
  unfold HS.comers
  rw [sortI_len, List.length_map]
  exact Nat.le_trans (List.length_filter_le _ _) (used_le h)
theorem abs_used {h : HS} : h.abs.used = h.used := by
  unfold LS.used LS.signs HS.used HS.signs
  rw [abs_keys]
  have : ∀ ns : List Int, (∀ n ∈ ns, n ∈ h.keys) → (ns.filterMap fun n => (get h.abs.rows n).map fun r => txLen r.row.text).sum = (ns.filterMap fun n => (get h.rows n).bind textLen).sum := by
    intro ns
    induction ns with
    | nil => intro _; rfl
    | cons n ns ih =>
      intro hs
      obtain ⟨r, hr⟩ := keys_row (hs n (by simp))
      have ih' := ih fun m hm => hs m (by simp [hm])
      rw [List.filterMap_cons, List.filterMap_cons, abs_get, hr]
      show (txLen r.text :: _).sum = _
      rw [List.sum_cons, ih']
      cases e : r.text with
      | none => simp [textLen, txLen, e]
      | some y => simp [textLen, txLen, e]
  exact this h.keys fun n hn => hn
def sp_law_is_as (K : PySem.W.Frag) : Sp := rsp fun H as d => ∃ p F q G h, as = [.obj p, .obj q] ∧ HAt (hC K) H p F h ∧ SAt H q G h.abs ∧ WF h ∧ d = .bl true
theorem ok_law_is_as {P : Program} {w : World} {K : PySem.W.Frag} {mg : Str → Option Value} {base : Heap} (S : Says K mg) : Fk P w K mg base 9 (He.fAd K ("_law_is_as", none)) ["house", "state"] (sp_law_is_as K) := by
  have G_House_comers := ok_House_comers (P := P) (w := w) (base := base) S
  have G_House_ties := ok_House_ties (P := P) (w := w) (base := base) S
  have G_law_same := ok_law_same (P := P) (w := w) (base := base) S
  have G_law_there := ok_law_there (P := P) (w := w) (base := base) S
  have G_House_inner := ok_House_inner (P := P) (w := w) (base := base) S
  have G_law_used := ok_law_used (P := P) (w := w) (base := base) S
  have G_House_day := ok_House_day (P := P) (w := w) (base := base) S
  have G_House_used := ok_House_used (P := P) (w := w) (base := base) S
  have G_law_shelf := ok_law_shelf (P := P) (w := w) (base := base) S
  have G_House_shelf := ok_House_shelf (P := P) (w := w) (base := base) S
  have G_House_things := ok_House_things (P := P) (w := w) (base := base) S
  refine mk_r S.df_law_is_as sc_law_is_as ?_ (by decide) fun cdv A outer s0 H H0 E as d bd hp => ?_
  · rintro H as d ⟨p, F, q, G, h, rfl, _⟩
    rfl
  · obtain ⟨p, F, q, G, h, rfl, y, x, w, rfl⟩ := hp
    obtain ⟨hr, tk, px, hu, hu65⟩ := bd
    refine ⟨_, (pss_cons (ps_set (i := 2) sc_law_is_as.nd rfl (Or.inl rfl) (pe_callTy call_tuple_of (by rfl) S.free_tuple (by decide +kernel) (pa_cons (pe_lc (own := [("one", 10)]) (g := (gName 10)) (tt := (tB (tCall (sp_law_there K) [] E0 (tCons (tVar 1) (tCons (tVar 10) tNil))))) (te := (tOp (rCatT K) (tTup (tCons (tVar 10) tNil)) (tSl (rSlT K) (tDGet (tDGet (tVar 1) (tC (.str "rows"))) (tVar 10)) tNoPart (tPart (tC (.int 3)))))) rfl sc_law_is_as.nd (pi_list (pe_callB (call_sortedDI rfl) (by rfl) S.free_sorted (by decide +kernel) (pa_cons (pe_dget hu (pv 1) (pe_str) (fun _ _ => rfl)) pa_nil))) (blkOk_by (N := ["house", "state", "things", "number", "day", "rows", "row", "pairs", "mine", "its", "one", "pair", "other"]) (sc := defScope s_law_is_as) (by decide +kernel)) (fun _ _ _ _ _ => (pg_name (i := 10) sc_law_is_as.nd rfl (Or.inl rfl))) (fun _ _ _ _ _ => (pts_one (pt_val (pe_cf G_law_there (hr.mono (by decide)) (by rfl) S.glo__law_there passL (pa_cons (pv 1) (pa_cons (pv 10) pa_nil)))))) (fun _ _ _ _ _ => (pe_op op_catT (pe_tup (pa_cons (pv 10) pa_nil)) (pe_slice sl_tup (pe_dget hu (pe_dget hu (pv 1) (pe_str) (fun _ _ => rfl)) (pv 10) (fun _ _ => rfl)) po_none (po_some (pe_int)))))) pa_nil)))
      (pss_cons (ps_if (pt_not (pt_val (pe_cf G_law_same (hr.mono (by decide)) (by rfl) S.glo__law_same px (pa_cons (pe_tup (pa_cons (pe_mt0 (pv 0) S.cls_House S.meth_things G_House_things (hr.mono (by decide)) px) (pa_cons (pe_mt0 (pv 0) S.cls_House S.meth_shelf G_House_shelf (hr.mono (by decide)) px) pa_nil))) (pa_cons (pe_tup (pa_cons (pv 2) (pa_cons (pe_cf G_law_shelf (hr.mono (by decide)) (by rfl) S.glo__law_shelf px (pa_cons (pv 1) pa_nil)) pa_nil))) pa_nil))))) (pss_one (ps_ret (pe_bl))) pss_nil)
      (pss_cons (ps_if (pt_not (pt_val (pe_cf G_law_same (hr.mono (by decide)) (by rfl) S.glo__law_same px (pa_cons (pe_tup (pa_cons (pe_mt0 (pv 0) S.cls_House S.meth_used G_House_used (hr.mono (by decide)) px) (pa_cons (pe_mt0 (pv 0) S.cls_House S.meth_day G_House_day (hr.mono (by decide)) px) pa_nil))) (pa_cons (pe_tup (pa_cons (pe_cf G_law_used (hr.mono (by decide)) (by rfl) S.glo__law_used px (pa_cons (pv 1) pa_nil)) (pa_cons (pe_dget hu (pv 1) (pe_str) (fun _ _ => rfl)) pa_nil))) pa_nil))))) (pss_one (ps_ret (pe_bl))) pss_nil)
      (pss_cons (ps_for (passes_of rfl) rfl (pi_list (pe_dget hu (pv 1) (pe_str) (fun _ _ => rfl))) (pg_tup rfl (pgs_cons (pg_name (i := 3) sc_law_is_as.nd rfl (Or.inr rfl)) (pgs_cons (pg_name (i := 4) sc_law_is_as.nd rfl (Or.inl rfl)) pgs_nil))) (pss_cons (ps_setLc (i := 5) (own := [("one", 10)]) (g := (gName 10)) (tt := (tTest (tOp rEq (tOp (rIxT K) (tDGet (tDGet (tVar 1) (tC (.str "rows"))) (tVar 10)) (tC (.int 3))) (tVar 3)))) (te := (tOp (rCatT K) (tTup (tCons (tVar 10) tNil)) (tSl (rSlT K) (tDGet (tDGet (tVar 1) (tC (.str "rows"))) (tVar 10)) tNoPart (tPart (tC (.int 3)))))) rfl sc_law_is_as.nd rfl rfl (sw_true rfl rfl rfl (by decide +kernel)) (pi_list (pe_callB (call_sortedDI rfl) (by rfl) S.free_sorted (by decide +kernel) (pa_cons (pe_dget hu (pv 1) (pe_str) (fun _ _ => rfl)) pa_nil))) (blkOk_by (N := ["house", "state", "things", "number", "day", "rows", "row", "pairs", "mine", "its", "one", "pair", "other"]) (sc := defScope s_law_is_as) (by decide +kernel)) (fun _ _ _ _ _ => (pg_name (i := 10) sc_law_is_as.nd rfl (Or.inl rfl))) (fun _ _ _ _ _ => (pts_one (pt_cmpR op_eq (pe_ix ix_tup (pe_dget hu (pe_dget hu (pv 1) (pe_str) (fun _ _ => rfl)) (pv 10) (fun _ _ => rfl)) (pe_int) (fun _ _ => rfl)) (pv 3) (nomark _)))) (fun _ _ _ _ _ => (pe_op op_catT (pe_tup (pa_cons (pv 10) pa_nil)) (pe_slice sl_tup (pe_dget hu (pe_dget hu (pv 1) (pe_str) (fun _ _ => rfl)) (pv 10) (fun _ _ => rfl)) po_none (po_some (pe_int))))))
      (pss_one (ps_if (pt_not (pt_val (pe_cf G_law_same (hr.mono (by decide)) (by rfl) S.glo__law_same px (pa_cons (pe_mt (pv 0) S.cls_House S.meth_inner G_House_inner (hr.mono (by decide)) px (pa_cons (pv 3) pa_nil)) (pa_cons (pe_callTy call_tuple_of (by rfl) S.free_tuple (by decide +kernel) (pa_cons (pv 5) pa_nil)) pa_nil))))) (pss_one (ps_ret (pe_bl))) pss_nil))))
      (pss_cons (ps_for (passes_of rfl) rfl (pi_tup (pv 2)) (pg_name (i := 6) sc_law_is_as.nd rfl (Or.inr rfl)) (pss_cons (ps_setLc (i := 7) (own := [("pair", 11)]) (g := (gName 11)) (tt := (tAnd (tB (tCall (sp_law_there K) [] E0 (tCons (tVar 1) (tCons (tOp (rIxT K) (tVar 11) (tC (.int 0))) tNil)))) (tB (tCall (sp_law_there K) [] E0 (tCons (tVar 1) (tCons (tOp (rIxT K) (tVar 11) (tC (.int 1))) tNil)))))) (te := (tVar 11)) rfl sc_law_is_as.nd rfl rfl (sw_true rfl rfl rfl (by decide +kernel)) (pi_list (pe_dget hu (pv 1) (pe_str) (fun _ _ => rfl))) (blkOk_by (N := ["house", "state", "things", "number", "day", "rows", "row", "pairs", "mine", "its", "one", "pair", "other"]) (sc := defScope s_law_is_as) (by decide +kernel)) (fun _ _ _ _ _ => (pg_name (i := 11) sc_law_is_as.nd rfl (Or.inl rfl))) (fun _ _ _ _ _ => (pts_one (PW.pt (pw_and (pt_val (pe_cf G_law_there (hr.mono (by decide)) (by rfl) S.glo__law_there passL (pa_cons (pv 1) (pa_cons (pe_ix ix_tup (pv 11) (pe_int) (fun _ _ => rfl)) pa_nil)))) (pw_and1 (pt_val (pe_cf G_law_there (hr.mono (by decide)) (by rfl) S.glo__law_there passL (pa_cons (pv 1) (pa_cons (pe_ix ix_tup (pv 11) (pe_int) (fun _ _ => rfl)) pa_nil))))))))) (fun _ _ _ _ _ => (pv 11)))
      (pss_cons (ps_set (i := 8) sc_law_is_as.nd rfl (Or.inl rfl) (pe_callTy call_tuple_of (by rfl) S.free_tuple (by decide +kernel) (pa_cons (pe_callB cr_sortedI (by rfl) S.free_sorted (by decide +kernel) (pa_cons (pe_lc (own := [("one", 10), ("other", 12)]) (g := (gTup K 2 (gCons (gName 10) (gCons (gName 12) gNil)))) (tt := (tTest (tOp rEq (tVar 10) (tOp (rIxT K) (tVar 6) (tC (.int 0)))))) (te := (tVar 12)) rfl sc_law_is_as.nd (pi_list (pv 7)) (blkOk_by (N := ["house", "state", "things", "number", "day", "rows", "row", "pairs", "mine", "its", "one", "pair", "other"]) (sc := defScope s_law_is_as) (by decide +kernel)) (fun _ _ _ _ _ => (pg_tup rfl (pgs_cons (pg_name (i := 10) sc_law_is_as.nd rfl (Or.inl rfl)) (pgs_cons (pg_name (i := 12) sc_law_is_as.nd rfl (Or.inl rfl)) pgs_nil)))) (fun _ _ _ _ _ => (pts_one (pt_cmpR op_eq (pv 10) (pe_ix ix_tup (pv 6) (pe_int) (fun _ _ => rfl)) (nomark _)))) (fun _ _ _ _ _ => (pv 12))) pa_nil)) pa_nil)))
      (pss_cons (ps_set (i := 9) sc_law_is_as.nd rfl (Or.inl rfl) (pe_callTy call_tuple_of (by rfl) S.free_tuple (by decide +kernel) (pa_cons (pe_callB cr_sortedI (by rfl) S.free_sorted (by decide +kernel) (pa_cons (pe_lc (own := [("one", 10), ("other", 12)]) (g := (gTup K 2 (gCons (gName 10) (gCons (gName 12) gNil)))) (tt := (tTest (tOp rEq (tVar 12) (tOp (rIxT K) (tVar 6) (tC (.int 0)))))) (te := (tVar 10)) rfl sc_law_is_as.nd (pi_list (pv 7)) (blkOk_by (N := ["house", "state", "things", "number", "day", "rows", "row", "pairs", "mine", "its", "one", "pair", "other"]) (sc := defScope s_law_is_as) (by decide +kernel)) (fun _ _ _ _ _ => (pg_tup rfl (pgs_cons (pg_name (i := 10) sc_law_is_as.nd rfl (Or.inl rfl)) (pgs_cons (pg_name (i := 12) sc_law_is_as.nd rfl (Or.inl rfl)) pgs_nil)))) (fun _ _ _ _ _ => (pts_one (pt_cmpR op_eq (pv 12) (pe_ix ix_tup (pv 6) (pe_int) (fun _ _ => rfl)) (nomark _)))) (fun _ _ _ _ _ => (pv 10))) pa_nil)) pa_nil)))
      (pss_one (ps_if (pt_not (pt_val (pe_cf G_law_same (hr.mono (by decide)) (by rfl) S.glo__law_same px (pa_cons (pe_tup (pa_cons (pe_mt (pv 0) S.cls_House S.meth_ties G_House_ties (hr.mono (by decide)) px (pa_cons (pe_ix ix_tup (pv 6) (pe_int) (fun _ _ => rfl)) pa_nil)) (pa_cons (pe_mt (pv 0) S.cls_House S.meth_comers G_House_comers (hr.mono (by decide)) px (pa_cons (pe_ix ix_tup (pv 6) (pe_int) (fun _ _ => rfl)) pa_nil)) pa_nil))) (pa_cons (pe_tup (pa_cons (pv 8) (pa_cons (pv 9) pa_nil))) pa_nil))))) (pss_one (ps_ret (pe_bl))) pss_nil))))))
      (pss_one (ps_ret (pe_bl)))))))), ?_⟩
    have hrl := w.rl
    have hsl := w.sl
    have hcl := w.cl
    have hpl := w.pl
    have hal : h.abs.rows.length < 64 := by rw [abs_len]; exact hrl
    have hrow : ∀ {n : Int} {r : Row}, get h.rows n = some r → get h.abs.rows n = some ⟨r, get h.shelved n⟩ := fun {n r} hr => by rw [abs_get, hr]; rfl
    have hcat : ∀ {ds : List (Option D)} {n : Int} {r : Row}, ds[1]? = some (some (.obj q)) → ds[10]? = some (some (.int n)) → get h.rows n = some r → EvD (tOp (rCatT K) (tTup (tCons (tVar 10) tNil)) (tSl (rSlT K) (tDGet (tDGet (tVar 1) (tC (.str "rows"))) (tVar 10)) tNoPart (tPart (tC (.int 3))))) ds H (rowD n r) := fun i1 i10 hr => ev_op (ev_tup (ea_cons (ev_var i10) ea_nil) (by simp)) (ev_head3 (s_row x.rd (ev_var i1) (ev_var i10) (hrow hr))) (op_catTD (by simp) (by simp) (by simp))
    refine ret_asg (x := .tup h.things) ?_ ?_
    · refine ev_cb (ea_cons (ev_lcLI (fun n => if h.there n = true then (get h.rows n).map (rowD n) else none) (ev_is (s_sortedRows x.rd hal (ev_var rfl)) (by rw [abs_keys])) (by rw [keys_len]; omega) (fun n hn => ?_) (fun n hn z hz => ?_)) ea_nil) cl_tupleOf
      · refine eb_is (eb_B (s_there x.rd (ev_var rfl) (ev_var rfl))) ?_
        rw [abs_there]
        by_cases c : h.there n = true
        · obtain ⟨r, hr⟩ := there_row c
          simp [c, hr]
        · simp [c]
      · by_cases c : h.there n = true
        · obtain ⟨r, hr⟩ := there_row c
          rw [if_pos c, hr] at hz
          cases hz
          exact ⟨hcat rfl rfl hr, rowD_pure n r⟩
        · rw [if_neg c] at hz
          cases hz
    refine ret_when (b := false) (eb_is (eb_not (eb_B (s_same (dep_2 (things_dep w) (shelf_dep w)) (ev_tup (ea_cons (ev_meth (ev_var rfl) y.ob rfl ea_nil (rsp_pr fun H' e => ⟨p, F, h, rfl, y.rd.mono e, hrl, rfl⟩)) (ea_cons (ev_meth (ev_var rfl) y.ob rfl ea_nil (rsp_pr fun H' e => ⟨p, F, h, rfl, y.rd.mono e, hsl, by omega, fun q hq => keys_row (w.ca q hq), rfl⟩)) ea_nil)) (by simp)) (ev_tup (ea_cons (ev_var rfl) (ea_cons (ev_call (ea_cons (ev_var rfl) ea_nil) (rsp_pr fun H' e => ⟨q, G, h, rfl, x.mono e, w, rfl⟩)) ea_nil)) (by simp))))) rfl) (fun q => by cases q) (fun _ => ?_)
    refine ret_when (b := false) (eb_is (eb_not (eb_B (s_same (x := .tup [.int h.used, .int h.today]) (dep_2 (dep_flat rfl) (dep_flat rfl)) (ev_tup (ea_cons (e_used y hrl w.tx (ev_var rfl)) (ea_cons (ev_meth (ev_var rfl) y.ob rfl ea_nil (rsp_pr fun H' e => ⟨p, F, h, rfl, y.rd.mono e, rfl⟩)) ea_nil)) (by simp)) (ev_tup (ea_cons (ev_is (s_used x hal w.tx' (ev_var rfl)) (by rw [abs_used])) (ea_cons (s_day x.rd (ev_var rfl)) ea_nil)) (by simp))))) rfl) (fun q => by cases q) (fun _ => ?_)
    refine ret_thru (ds' := [some (.obj p), some (.obj q), some (.tup h.things), none, none, none, none, none, none, none, none, none, none]) (thru_forP2 (s_casts x.rd (ev_var rfl)) fun c hc => ?_) ?_
    · refine thru_asg (x := .lst ((h.bundle c.1).filterMap fun k => (get h.rows k).map (rowD k))) ?_ ?_
      · rw [← inner_eq w c.1]
        refine ev_lcLI _ (ev_is (s_sortedRows x.rd hal (ev_var rfl)) (by rw [abs_keys])) (by rw [keys_len]; omega) (fun n hn => ?_) (fun n hn z hz => ?_)
        · obtain ⟨r, hr⟩ := keys_row (mem_sortI.mp hn)
          refine eb_is (eb_test (ev_op (s_mark x.rd (ev_var rfl) (ev_var rfl) (hrow hr)) (ev_var rfl) (op_eqF (oI_flat _) rfl (oI_scal _ (some c.1))))) ?_
          rw [show (D.int c.1).val = (oI (some c.1)).val from rfl, oI_val, hr]
          by_cases e : get h.shelved n = some c.1 <;> simp [e]
        · obtain ⟨r, hr⟩ := keys_row (mem_sortI.mp hn)
          rw [hr] at hz
          split at hz
          · cases hz
            exact ⟨hcat rfl rfl hr, rowD_pure n r⟩
          · cases hz
      · have hmem : c.1 ∈ h.casts.map (·.1) := List.mem_map.mpr ⟨c, hc, rfl⟩
        have hin : h.innerR c.1 = .ok (.tup ((h.bundle c.1).filterMap fun k => (get h.rows k).map (rowD k))) := by
          unfold HS.innerR
          rw [if_pos hmem]
        have hiv : ∀ {ds : List (Option D)}, ds[0]? = some (some (.obj p)) → ds[3]? = some (some (.int c.1)) → EvD (tMeth (hC K) "inner" (sp_House_inner K) [] E (tVar 0) (tCons (tVar 3) tNil)) ds H (.tup ((h.bundle c.1).filterMap fun k => (get h.rows k).map (rowD k))) := fun i0 i3 => by
          have hx : EvX K E _ _ H (h.innerR c.1) := ex_meth (m := "inner") (X := E) (ev_var i0) y.ob rfl (ea_cons (ev_var i3) ea_nil) (rspX_pr (Pre := fun H as r => ∃ p F h n, as = [.obj p, .int n] ∧ HRd (hC K) H p F h ∧ h.shelved.length < 64 ∧ h.casts.length < 100000 ∧ (∀ k ∈ h.shelved.map (·.1), ∃ r, get h.rows k = some r) ∧ r = h.innerR n) fun H' e => ⟨p, F, h, c.1, rfl, y.rd.mono e, hsl, by omega, fun k hk => keys_row (w.sub k hk), rfl⟩)
          rw [hin] at hx
          exact ev_of_x hx
        exact thru_not (eb_is (eb_not (eb_B (s_same (inner_dep w c.1) (hiv rfl rfl) (ev_cb (ea_cons (ev_var rfl) ea_nil) cl_tupleOf)))) rfl) fun H σ n => ((n.forget 3).forget 4).forget 5
    refine ret_thru (ds' := [some (.obj p), some (.obj q), some (.tup h.things), none, none, none, none, none, none, none, none, none, none]) (thru_forT (ev_var rfl) fun z hz => ?_) (ret_ret ev_bl)
    obtain ⟨n, r, rfl, ht, hr⟩ := things_row hz
    have hn : ∀ {ds : List (Option D)}, ds[6]? = some (some (rowD n r)) → EvD (tOp (rIxT K) (tVar 6) (tC (.int 0))) ds H (.int n) := fun i6 => ev_op (ev_var i6) ev_int (op_ixT (i := 0) rfl)
    refine thru_asg (x := .lst (h.used_pairs.map pairD)) ?_ ?_
    · unfold HS.used_pairs
      rw [← filterMap_if]
      refine ev_lcP _ (s_ties x.rd (ev_var rfl)) (by show h.pairs.length < _; omega) (fun c hc => ?_) (fun c hc z hz => ?_)
      · refine eb_is (eb_and (eb_B (s_there x.rd (ev_var rfl) (op_fst (ev_var rfl)))) fun _ => eb_B (s_there x.rd (ev_var rfl) (op_snd (ev_var rfl)))) ?_
        rw [abs_there, abs_there, isSome_if]
      · split at hz
        · cases hz
          exact ⟨ev_var rfl, pairD_pure c⟩
        · cases hz
    refine thru_asg (x := .tup ((h.ties n).map D.int)) (ev_cb (ea_cons (ev_cb (ea_cons ?_ ea_nil) (cl_sortedI (ns := (h.used_pairs.filter fun q => decide (q.1 = n)).map (·.2)))) ea_nil) cl_tupleOf) ?_
    · rw [← fm_map]
      refine ev_lcP2 (by decide) _ (ev_var rfl) (by have := used_le h; omega) (fun c hc => ?_) (fun c hc z hz => ?_)
      · refine eb_is (eb_test (ev_op (ev_var rfl) (hn rfl) (op_eqF rfl rfl rfl))) ?_
        rw [isSome_if, dec_int_val]
      · split at hz
        · cases hz
          exact ⟨ev_var rfl, rfl⟩
        · cases hz
    refine thru_asg (x := .tup ((h.comers n).map D.int)) (ev_cb (ea_cons (ev_cb (ea_cons ?_ ea_nil) (cl_sortedI (ns := (h.used_pairs.filter fun q => decide (q.2 = n)).map (·.1)))) ea_nil) cl_tupleOf) ?_
    · rw [← fm_map]
      refine ev_lcP2 (by decide) _ (ev_var rfl) (by have := used_le h; omega) (fun c hc => ?_) (fun c hc z hz => ?_)
      · refine eb_is (eb_test (ev_op (ev_var rfl) (hn rfl) (op_eqF rfl rfl rfl))) ?_
        rw [isSome_if, dec_int_val]
      · split at hz
        · cases hz
          exact ⟨ev_var rfl, rfl⟩
        · cases hz
    have hti : ∀ {ds : List (Option D)}, ds[0]? = some (some (.obj p)) → ds[6]? = some (some (rowD n r)) → EvD (tMeth (hC K) "ties" (sp_House_ties K) [] E (tVar 0) (tCons (tOp (rIxT K) (tVar 6) (tC (.int 0))) tNil)) ds H (.tup ((h.ties n).map D.int)) := fun i0 i6 => by
      have hx : EvX K E _ _ H (h.tiesR n) := ex_meth (m := "ties") (X := E) (ev_var i0) y.ob rfl (ea_cons (hn i6) ea_nil) (rspX_pr (Pre := fun H as r => ∃ p F h n, as = [.obj p, .int n] ∧ HRd (hC K) H p F h ∧ h.pairs.length < 100000 ∧ r = h.tiesR n) fun H' e => ⟨p, F, h, n, rfl, y.rd.mono e, hpl, rfl⟩)
      rw [show h.tiesR n = .ok (.tup ((h.ties n).map D.int)) by simp [HS.tiesR, ht]] at hx
      exact ev_of_x hx
    have hco : ∀ {ds : List (Option D)}, ds[0]? = some (some (.obj p)) → ds[6]? = some (some (rowD n r)) → EvD (tMeth (hC K) "comers" (sp_House_comers K) [] E (tVar 0) (tCons (tOp (rIxT K) (tVar 6) (tC (.int 0))) tNil)) ds H (.tup ((h.comers n).map D.int)) := fun i0 i6 => by
      have hx : EvX K E _ _ H (h.comersR n) := ex_meth (m := "comers") (X := E) (ev_var i0) y.ob rfl (ea_cons (hn i6) ea_nil) (rspX_pr (Pre := fun H as r => ∃ p F h n, as = [.obj p, .int n] ∧ HRd (hC K) H p F h ∧ h.pairs.length < 100000 ∧ r = h.comersR n) fun H' e => ⟨p, F, h, n, rfl, y.rd.mono e, hpl, rfl⟩)
      rw [show h.comersR n = .ok (.tup ((h.comers n).map D.int)) by simp [HS.comersR, ht]] at hx
      exact ev_of_x hx
    have l1 := ties_len h n
    have l2 := comers_len h n
    exact thru_not (eb_is (eb_not (eb_B (s_same (dep_2 (dep_ints (n := 3) (by omega)) (dep_ints (n := 3) (by omega))) (ev_tup (ea_cons (hti rfl rfl) (ea_cons (hco rfl rfl) ea_nil)) (by simp)) (ev_tup (ea_cons (ev_var rfl) (ea_cons (ev_var rfl) ea_nil)) (by simp))))) rfl) fun H σ n => (((n.forget 6).forget 7).forget 8).forget 9
end Cs
set_option Elab.async false
set_option linter.all false
set_option maxRecDepth 100000
set_option maxHeartbeats 4000000
namespace Cs
open PySem PySem.Spec PyProof.Rows L2
/-! ### _law_place -/
noncomputable def HS.moveS (h : HS) (n : Int) (par : Option Int) : D × LS :=
  if h.there n = true then if h.noBox par = true then (.str "no box", h.abs) else if oMem par (h.wholeL n) = true then (.str "inside", h.abs) else match get h.rows n with
    | some r => if r.name ∈ h.namesIn par (some n) then (.str "taken", h.abs) else (.non, { h.abs with rows := put h.abs.rows n ⟨{ r with par := par }, get h.shelved n⟩ })
    | none => (.str "no thing", h.abs)
  else (.str "no thing", h.abs)
def sp_law_place (K : PySem.W.Frag) : Sp := swsp K fun s as d s' => s.rows.length < 64 ∧ ((∃ n nm, as = [.str "rename", .tup [.int n, .str nm]] ∧ (d, s') = s.renameS n nm) ∨ ∃ h n par, s = HS.abs h ∧ Tree h ∧ as = [.str "move", .tup [.int n, oI par]] ∧ (d, s') = h.moveS n par)
theorem ok_law_place {P : Program} {w : World} {K : PySem.W.Frag} {mg : Str → Option Value} {base : Heap} (S : Says K mg) : Fk P w K mg base 3 (He.fAd K ("_law_place", none)) ["state", "word", "rest"] (sp_law_place K) := by
  have G_law_names := ok_law_names (P := P) (w := w) (base := base) S
  have G_law_within := ok_law_within (P := P) (w := w) (base := base) S
  have G_law_no_box := ok_law_no_box (P := P) (w := w) (base := base) S
  have G_law_there := ok_law_there (P := P) (w := w) (base := base) S
  refine mk_s S.df_law_place sc_law_place ?_ (by decide) fun cdv A outer sh H H0 Q E q G s as d s' bd pa x hp k => ?_
  · rintro s as d s' ⟨_, ⟨n, nm, rfl, _⟩ | ⟨h, n, par, _, _, rfl, _⟩⟩ <;> rfl
  · obtain ⟨hl, ⟨n, nm, rfl, hres⟩ | ⟨h, n, par, rfl, tr, rfl, hres⟩⟩ := hp
    · obtain ⟨hr, tk, px, hu, hu65⟩ := bd
      refine ⟨_, (pss_cons (ps_asg (pv 2) (pg_tup rfl (pgs_cons (pg_name (i := 3) sc_law_place.nd rfl (Or.inl rfl)) (pgs_cons (pg_name (i := 4) sc_law_place.nd rfl (Or.inl rfl)) pgs_nil))))
      (pss_cons (ps_if (pt_not (pt_val (pe_cf G_law_there (hr.mono (by decide)) (by rfl) S.glo__law_there px (pa_cons (pv 0) (pa_cons (pv 3) pa_nil))))) (pss_one (ps_ret (pe_str))) pss_nil)
      (pss_cons (ps_asg (pe_dget hu (pe_dget hu (pv 0) (pe_str) (fun _ _ => rfl)) (pv 3) (fun _ _ => rfl)) (pg_tup rfl (pgs_cons (pg_name (i := 5) sc_law_place.nd rfl (Or.inl rfl)) (pgs_cons (pg_name (i := 6) sc_law_place.nd rfl (Or.inl rfl)) (pgs_cons (pg_name (i := 7) sc_law_place.nd rfl (Or.inl rfl)) (pgs_cons (pg_name (i := 8) sc_law_place.nd rfl (Or.inl rfl)) pgs_nil))))))
      (pss_cons (ps_if (pt_cmpR op_eq (pv 1) (pe_str) (nomark _)) (pss_one (ps_set (i := 6) sc_law_place.nd rfl (Or.inl rfl) (pv 4))) (pss_cons (ps_set (i := 5) sc_law_place.nd rfl (Or.inl rfl) (pv 4))
      (pss_cons (ps_if (pt_val (pe_cf G_law_no_box (hr.mono (by decide)) (by rfl) S.glo__law_no_box px (pa_cons (pv 0) (pa_cons (pv 5) pa_nil)))) (pss_one (ps_ret (pe_str))) pss_nil)
      (pss_one (ps_if (pt_cmpR op_in_seq (pv 5) (pe_cf G_law_within (hr.mono (by decide)) (by rfl) S.glo__law_within px (pa_cons (pv 0) (pa_cons (pv 3) pa_nil))) rfl) (pss_one (ps_ret (pe_str))) pss_nil)))))
      (pss_cons (ps_if (pt_cmpR op_in_seq (pv 6) (pe_cf G_law_names (hr.mono (by decide)) (by rfl) S.glo__law_names px (pa_cons (pv 0) (pa_cons (pv 5) (pa_cons (pv 3) pa_nil)))) rfl) (pss_one (ps_ret (pe_str))) pss_nil)
      (pss_cons (ps_dput hu (pe_dget hu (pv 0) (pe_str) (fun _ _ => rfl)) (pv 3) (pe_tup (pa_cons (pv 5) (pa_cons (pv 6) (pa_cons (pv 7) (pa_cons (pv 8) pa_nil))))) rfl)
      (pss_one (ps_ret (pe_non))))))))), ?_⟩
      refine go_un2 (ev_var rfl) ?_
      unfold LS.renameS at hres
      refine go_when (eb_not (eb_B (s_there x.rd (ev_var rfl) (ev_var rfl)))) (fun c => ?_) (fun c => ?_)
      · rw [if_neg (by simpa using c)] at hres
        cases hres
        exact go_ret ev_str fun v H1 e hv => k v H1 G (x.mono e) (Fr.of_ex e) SFresh.refl hv
      · have ht : s.there (some n) = true := by simpa using c
        obtain ⟨r, hr, hm⟩ := sthere_row ht
        rw [if_pos ht, hr] at hres
        dsimp only at hres
        refine go_un4 (s_row x.rd (ev_var rfl) (ev_var rfl) hr) ?_
        refine go_ifs (b := true) (eb_eqS rfl (by decide +kernel)) (fun _ => ?_) (fun q => by cases q)
        refine put_end (go_asg (ev_var rfl) (go_next ?_))
        intro σ H1 e nn
        refine (?_ : Go _ _ H _) σ H1 e nn
        refine go_when (b := decide (nm ∈ s.names r.row.par (some n))) (eb_is (eb_test (ev_op (ev_var rfl) (s_names (but := some n) x hl (ev_var rfl) (ev_var rfl) (ev_var rfl)) (op_inL rfl (strs_flat _)))) (by rw [strs_val]; exact inV_strs nm _)) (fun c2 => ?_) (fun c2 => ?_)
        · rw [if_pos (of_decide_eq_true c2)] at hres
          cases hres
          exact go_ret ev_str fun v H1 e hv => k v H1 G (x.mono e) (Fr.of_ex e) SFresh.refl hv
        · rw [if_neg (of_decide_eq_false c2)] at hres
          cases hres
          have pe : pureE [some (.obj q), some (.str "rename"), some (.tup [.int n, .str nm]), some (.int n), some (.str nm), some (oI r.row.par), some (.str nm), some (oS r.row.text), some (oI r.mark)] = true := by cases r.row.par <;> cases r.row.text <;> cases r.mark <;> rfl
          refine go_srow (n := n) (r := ⟨{ r.row with name := nm }, r.mark⟩) x (by omega) (ev_tup (ea_cons (ev_var rfl) (ea_cons (ev_var rfl) (ea_cons (ev_var rfl) (ea_cons (ev_var rfl) ea_nil)))) (by simp)) (s_rows x.rd (ev_var rfl)) (ev_var rfl) pe fun H3 x3 r3 => ?_
          exact go_ret ev_non fun v H4 e4 hv => k v H4 G (x3.mono e4) (r3.trans_ex e4) SFresh.refl hv
    · obtain ⟨hr, tk, px, hu, hu65⟩ := bd
      rw [abs_len] at hl
      have hal : h.abs.rows.length < 64 := by rw [abs_len]; exact hl
      refine ⟨_, (pss_cons (ps_asg (pv 2) (pg_tup rfl (pgs_cons (pg_name (i := 3) sc_law_place.nd rfl (Or.inl rfl)) (pgs_cons (pg_name (i := 4) sc_law_place.nd rfl (Or.inl rfl)) pgs_nil))))
      (pss_cons (ps_if (pt_not (pt_val (pe_cf G_law_there (hr.mono (by decide)) (by rfl) S.glo__law_there px (pa_cons (pv 0) (pa_cons (pv 3) pa_nil))))) (pss_one (ps_ret (pe_str))) pss_nil)
      (pss_cons (ps_asg (pe_dget hu (pe_dget hu (pv 0) (pe_str) (fun _ _ => rfl)) (pv 3) (fun _ _ => rfl)) (pg_tup rfl (pgs_cons (pg_name (i := 5) sc_law_place.nd rfl (Or.inl rfl)) (pgs_cons (pg_name (i := 6) sc_law_place.nd rfl (Or.inl rfl)) (pgs_cons (pg_name (i := 7) sc_law_place.nd rfl (Or.inl rfl)) (pgs_cons (pg_name (i := 8) sc_law_place.nd rfl (Or.inl rfl)) pgs_nil))))))
      (pss_cons (ps_if (pt_cmpR op_eq (pv 1) (pe_str) (nomark _)) (pss_one (ps_set (i := 6) sc_law_place.nd rfl (Or.inl rfl) (pv 4))) (pss_cons (ps_set (i := 5) sc_law_place.nd rfl (Or.inl rfl) (pv 4))
      (pss_cons (ps_if (pt_val (pe_cf G_law_no_box (hr.mono (by decide)) (by rfl) S.glo__law_no_box px (pa_cons (pv 0) (pa_cons (pv 5) pa_nil)))) (pss_one (ps_ret (pe_str))) pss_nil)
      (pss_one (ps_if (pt_cmpR op_in_seq (pv 5) (pe_cf G_law_within (hr.mono (by decide)) (by rfl) S.glo__law_within px (pa_cons (pv 0) (pa_cons (pv 3) pa_nil))) rfl) (pss_one (ps_ret (pe_str))) pss_nil)))))
      (pss_cons (ps_if (pt_cmpR op_in_seq (pv 6) (pe_cf G_law_names (hr.mono (by decide)) (by rfl) S.glo__law_names px (pa_cons (pv 0) (pa_cons (pv 5) (pa_cons (pv 3) pa_nil)))) rfl) (pss_one (ps_ret (pe_str))) pss_nil)
      (pss_cons (ps_dput hu (pe_dget hu (pv 0) (pe_str) (fun _ _ => rfl)) (pv 3) (pe_tup (pa_cons (pv 5) (pa_cons (pv 6) (pa_cons (pv 7) (pa_cons (pv 8) pa_nil))))) rfl)
      (pss_one (ps_ret (pe_non))))))))), ?_⟩
      refine go_un2 (ev_var rfl) ?_
      unfold HS.moveS at hres
      refine go_when (b := !h.there n) (eb_not (eb_B (ev_is (s_there x.rd (ev_var rfl) (ev_var rfl)) (by rw [abs_there])))) (fun c => ?_) (fun c => ?_)
      · rw [if_neg (by simpa using c)] at hres
        cases hres
        exact go_ret ev_str fun v H1 e hv => k v H1 G (x.mono e) (Fr.of_ex e) SFresh.refl hv
      · have ht : h.there n = true := by simpa using c
        obtain ⟨r, hr⟩ := there_row ht
        have hr2 : get h.abs.rows n = some ⟨r, get h.shelved n⟩ := by rw [abs_get, hr]; rfl
        rw [if_pos ht, hr] at hres
        dsimp only at hres
        refine go_un4 (s_row x.rd (ev_var rfl) (ev_var rfl) hr2) ?_
        refine go_ifs (b := false) (eb_eqS rfl (by decide +kernel)) (fun q => by cases q) (fun _ => ?_)
        refine go_asg (ev_var rfl) ?_
        refine go_when (b := h.noBox par) (eb_is (eb_B (s_noBox x.rd (ev_var rfl) (ev_var rfl))) (abs_noBox h par)) (fun c2 => ?_) (fun c2 => ?_)
        · rw [if_pos c2] at hres
          cases hres
          exact go_ret ev_str fun v H1 e hv => k v H1 G (x.mono e) (Fr.of_ex e) SFresh.refl hv
        · rw [if_neg (by rw [c2]; exact Bool.false_ne_true)] at hres
          refine go_if (b := oMem par (h.wholeL n)) (eb_is (eb_test (ev_op (ev_var rfl) (s_within x.rd ht hl tr (ev_var rfl) (ev_var rfl)) (op_inL (oI_flat _) (ints_flat _)))) (by rw [ints_val]; exact inV_ints _ _)) (fun c3 => ?_) (fun c3 => ?_)
          · rw [if_pos c3] at hres
            cases hres
            exact go_ret ev_str fun v H1 e hv => k v H1 G (x.mono e) (Fr.of_ex e) SFresh.refl hv
          · rw [if_neg (by rw [c3]; exact Bool.false_ne_true)] at hres
            refine go_next ?_
            intro σ H1 e nn
            refine (?_ : Go _ _ H _) σ H1 e nn
            refine go_when (b := decide (r.name ∈ h.namesIn par (some n))) (eb_is (eb_test (ev_op (ev_var rfl) (ev_is (s_names (but := some n) x hal (ev_var rfl) (ev_var rfl) (ev_var rfl)) (by rw [abs_names])) (op_inL rfl (strs_flat _)))) (by rw [strs_val]; exact inV_strs r.name _)) (fun c4 => ?_) (fun c4 => ?_)
            · rw [if_pos (of_decide_eq_true c4)] at hres
              cases hres
              exact go_ret ev_str fun v H1 e hv => k v H1 G (x.mono e) (Fr.of_ex e) SFresh.refl hv
            · rw [if_neg (of_decide_eq_false c4)] at hres
              cases hres
              refine go_srow (n := n) (r := ⟨{ r with par := par }, get h.shelved n⟩) x (by omega) (ev_tup (ea_cons (ev_var rfl) (ea_cons (ev_var rfl) (ea_cons (ev_var rfl) (ea_cons (ev_var rfl) ea_nil)))) (by simp)) (s_rows x.rd (ev_var rfl)) (ev_var rfl) (by cases par <;> cases r.par <;> cases r.text <;> cases get h.shelved n <;> rfl) fun H3 x3 r3 => ?_
              exact go_ret ev_non fun v H4 e4 hv => k v H4 G (x3.mono e4) (r3.trans_ex e4) SFresh.refl hv
/-! ### _law_do -/
theorem el_lcPF {K : PySem.W.Frag} {ds : List (Option D)} {H : Hp} {tl te : TE} {tt : TT} {j : Nat} {ps : List (Int × Int)} (c : Int × Int → Bool) (hl : EvD tl ds H (.lst (ps.map pairD))) (hz : ps.length < 1000000) (ht : ∀ p ∈ ps, EvB tt (ds.set j (some (pairD p))) H (c p))
    (he : ∀ p ∈ ps, EvD te (ds.set j (some (pairD p))) H (.int p.1)) : EvL (tLc (iList K tl) (gName j) tt te [j]) ds H (((ps.filter c).map (·.1)).map D.int) := by
  have e : (ps.map pairD).filterMap (fun d => match d with | .tup [.int a, .int b] => if c (a, b) = true then some (D.int a) else none | _ => none) = ((ps.filter c).map (·.1)).map D.int := by
    rw [List.filterMap_map, ← fm_map]
    rfl
  rw [← e]
  refine el_lcL _ hl (by rw [List.length_map]; exact hz) (fun k hk => ?_) (fun k hk y hy => ?_)
  · obtain ⟨p, hp, rfl⟩ := List.mem_map.mp hk
    refine eb_is (ht p hp) ?_
    show c p = (if c (p.1, p.2) = true then some (D.int p.1) else none).isSome
    by_cases q : c p = true <;> simp [q]
  · obtain ⟨p, hp, rfl⟩ := List.mem_map.mp hk
    have hy' : (if c p = true then some (D.int p.1) else none) = some y := hy
    split at hy'
    · cases hy'
      exact ⟨he p hp, rfl⟩
    · cases hy'
theorem seqA {te : TE} {g : TG} {tz : TS} {E : Ends} {σ : L2.St} {H : Hp} (h : te σ H fun x H1 => g x σ H1 (tz E)) : tSeq (tAsg te g) tz E σ H := h
/-- many = sum([_law_lose(state, number) for number in some]) -/
theorem go_loseComp {K : PySem.W.Frag} {ds : List (Option D)} {H : Hp} {tz : TS} {E : Ends} {X : XK} {q a : Addr} {G : SFoot} {h : HS} {ns : List Int} {d1 d2 d3 : D} (hds : ds = [some (.obj q), some d1, some d2, some d3, some (.obj a), none, none, none]) (pe : pureE ds = true) (x : SAt H q G h.abs) (ok : OkH h) (ha : H a = some (.lst (ns.map V.int))) (na : a ∉ sfp q G) (hz : ns.length < 100000)
    (k : ∀ H2 G2, SAt H2 q G2 (loseAll h ns).abs → Fr (sfp q G) H H2 → SFresh q H G G2 → Go tz (ds.set 5 (some (.int (loseCounts h ns).sum))) H2 E) :
    Go (tSeq (tAsg (tCB (rSum K) (tCons (tLc (iList K (tVar 4)) (gName 7) tYes (tCall (sp_law_lose K) [] X (tCons (tVar 0) (tCons (tVar 7) tNil))) [7]) tNil)) (gName 5)) tz) ds H E := by
  intro σ H1 e n
  have n' := n
  rw [hds] at n'
  obtain ⟨v4, g4, i4⟩ := n'.get (i := 4) (d := .obj a) rfl
  cases (show _ = _ from i4)
  refine seqA (cb1 ?_)
  unfold tLc
  refine li1 ⟨_, g4, a, rfl, ⟨_, SqL.of (e _ _ ha)⟩, fun c hc => ?_⟩
  have x1 := x.mono e
  have eb : Ex H1 (upd H1 c (.lst [])) := Ex.new hc
  have xb := x1.mono eb
  have ncF : c ∉ sfp q G := fun m => x1.sfp_some m hc
  have nac : a ≠ c := ne_of_none (e _ _ ha) hc
  have nb0 : EnvOk (upd H1 c (.lst [])) (wipe σ [7]) ds := by
    have := (n.mono eb).clear 7 none
    have h7 : ds.set 7 none = ds := by rw [hds]; rfl
    rw [h7] at this
    exact this
  refine lc_list (xs := ns.map V.int) (fun i H' => ∃ G', SAt H' q G' (loseAll h (ns.take i)).abs ∧ H' c = some (.lst ((loseCounts h (ns.take i)).map V.int)) ∧ Fr (c :: sfp q G) (upd H1 c (.lst [])) H' ∧ SFresh q (upd H1 c (.lst [])) G G') ?_ ?_ ?_ ?_
  · exact ⟨G, xb, upd_same, fun b o hb _ => hb, SFresh.refl⟩
  · rintro i H' _ ⟨G', _, _, fr, _⟩
    refine SqL.of (fr a _ (eb _ _ (e _ _ ha)) fun m => ?_)
    rcases List.mem_cons.mp m with z | z
    · exact nac z
    · exact na z
  · rintro i y H' hy ⟨G', x', hc', fr, fs⟩
    rw [List.getElem?_map] at hy
    obtain ⟨m, hm, rfl⟩ : ∃ m, ns[i]? = some m ∧ V.int m = y := by
      cases e3 : ns[i]? with
      | none => rw [e3] at hy; cases hy
      | some m => rw [e3] at hy; exact ⟨m, rfl, Option.some.inj hy⟩
    have ncF' : c ∉ sfp q G' := fun m => by
      rcases fs c m with z | z
      · exact ncF z
      · rw [upd_same] at z; cases z
    have nn : EnvOk H' ((wipe σ [7]).set 7 (some (.int m))) (ds.set 7 (some (.int m))) := by
      have h0 : EnvOk H' (wipe σ [7]) ds := nb0.tups (fun z ws hz => fr z _ hz fun w => by
        rcases List.mem_cons.mp w with y | y
        · rw [y, upd_same] at hz; cases hz
        · exact xb.not_tup hz y) pe
      exact h0.set (d := .int m) (v := .int m) rfl 7
    refine ⟨by simp [wipe], yes1 (iteT ?_)⟩
    refine w_s (d := .int ((loseAll h (ns.take i)).bundle m).length) (s' := ((loseAll h (ns.take i)).loseH m).abs) x' (ea_cons (ev_var (by rw [hds]; rfl)) (ea_cons (ev_var (i := 7) (by rw [hds]; rfl)) ea_nil)) rfl ⟨loseAll h (ns.take i), m, rfl, ok.loseAll _, rfl, rfl, rfl⟩ (Same.refl _) nn fun v H4 G4 x4 r4 f4 hv4 => ?_
    cases (show _ = _ from hv4)
    have hc4 : H4 c = some (.lst ((loseCounts h (ns.take i)).map V.int)) := r4 c _ hc' ncF'
    have ncF4 : c ∉ sfp q G4 := fun w => by
      rcases f4 c w with z | z
      · exact ncF' z
      · rw [hc'] at z; cases z
    have hlen : (loseCounts h (ns.take i)).length ≤ i := by
      have aux : ∀ (ns : List Int) (h : HS), (loseCounts h ns).length = ns.length := by
        intro ns
        induction ns with
        | nil => intro h; rfl
        | cons m r ih => intro h; exact congrArg Nat.succ (ih _)
      rw [aux]
      exact List.length_take_le _ _
    have hic : i < ns.length := (List.getElem?_eq_some_iff.mp hm).1
    refine ⟨_, hc4, by rw [List.length_map]; exact Nat.lt_trans (show _ < 100000 by omega) (by decide), G4, ?_, ?_, ?_, ?_⟩
    · rw [List.take_succ, hm, Option.toList_some, loseAll_snoc]
      refine x4.frame (L := [c]) (fun z o hz nz => by rw [upd_ne (fun (w : z = c) => nz (by rw [w]; simp))]; exact hz) (fun z hz w => ncF4 (by rw [← List.mem_singleton.mp w]; exact hz)) fun z ws hz => by
        rw [upd_ne (ne_of hz hc4 (by intro w; cases w))]
        exact hz
    · rw [List.take_succ, hm, Option.toList_some, counts_snoc, upd_same, List.map_append]
      rfl
    · intro z o hz nz
      have nzc : z ≠ c := fun w => nz (by rw [w]; simp)
      have nzF : z ∉ sfp q G' := fun w => by
        rcases fs z w with y | y
        · exact nz (by simp [y])
        · rw [hz] at y; cases y
      rw [upd_ne nzc]
      exact r4 z o (fr z o hz nz) nzF
    · intro z hz
      rcases f4 z hz with y | y
      · exact fs z y
      · by_cases w : z ∈ sfp q G
        · exact .inl w
        · refine .inr ?_
          cases e5 : upd H1 c (.lst []) z with
          | none => rfl
          | some o =>
            by_cases zc : z = c
            · exact absurd hz (by rw [zc]; exact ncF4)
            · rw [fr z o e5 (by simp [zc, w])] at y
              cases y
  · rintro H' ⟨G', x', hc', fr, fs⟩
    rw [List.length_map, List.take_length] at x' hc'
    refine ⟨c, _, rfl, SqL.of hc', ?_⟩
    refine k H' G' x' ?_ ?_ _ H' (Same.refl _) (EnvOk.set (d := .int (loseCounts h ns).sum) (v := .int (loseCounts h ns).sum) rfl 5 ?_)
    · intro z o hz nz
      have hz2 := e z o hz
      exact fr z o (eb _ _ hz2) fun m => by
        rcases List.mem_cons.mp m with y | y
        · rw [y, hc] at hz2; cases hz2
        · exact nz y
    · intro z hz
      rcases fs z hz with y | y
      · exact .inl y
      · exact .inr (e.free (eb.free y))
    · refine (n.mono eb).tups (fun z ws hz => fr z _ hz fun w => ?_) pe
      rcases List.mem_cons.mp w with y | y
      · rw [y, upd_same] at hz; cases hz
      · exact xb.not_tup hz y
noncomputable def HS.doS (h : HS) : Deed → D × LS
  | .make par nm b => h.abs.makeS par nm b
  | .rename n nm => h.abs.renameS n nm
  | .move n par => h.moveS n par
  | .tie a b => toS ((h.tieO a b).told h)
  | .untie a b => toS ((h.untieO a b).told h)
  | .back n => toS ((h.backO n).told h)
  | .gone n => toS ((h.goneO n).told h)
  | .cast n => toS ((h.castO n).told h)
  | .empty => toS (h.emptyO.told h)
  | .next_day => toS (h.nextO.told h)
  | _ => (.non, h.abs)
def sp_law_do (K : PySem.W.Frag) : Sp := swsp K fun s as d s' => ∃ h b dd, s = HS.abs h ∧ as = [Deed.d dd] ∧ okDeed dd = true ∧ okAt h dd ∧ HInv h b ∧ b < 64 ∧ (d, s') = h.doS dd
theorem ok_law_do {P : Program} {w : World} {K : PySem.W.Frag} {mg : Str → Option Value} {base : Heap} (S : Says K mg) : Fk P w K mg base 5 (He.fAd K ("_law_do", none)) ["state", "deed"] (sp_law_do K) := by
  have G_law_lose := ok_law_lose (P := P) (w := w) (base := base) S
  have G_law_shelve := ok_law_shelve (P := P) (w := w) (base := base) S
  have G_law_tie := ok_law_tie (P := P) (w := w) (base := base) S
  have G_law_place := ok_law_place (P := P) (w := w) (base := base) S
  have G_law_make := ok_law_make (P := P) (w := w) (base := base) S
  refine mk_s S.df_law_do sc_law_do ?_ (by decide) fun cdv A outer sh H H0 Q E q G s as d s' bd pa x hp k => ?_
  · rintro s as d s' ⟨h, b, dd, _, rfl, _⟩
    rfl
  · obtain ⟨h, bn, dd, rfl, rfl, hok, oa, iv, hb, hres⟩ := hp
    have hl' : h.rows.length < 64 := Nat.lt_of_le_of_lt iv.rl hb
    have hl : h.abs.rows.length < 64 := by rw [abs_len]; exact hl'
    have ok : OkH h := ⟨bn, iv, hb⟩
    obtain ⟨hr, tk, px, hu, hu65⟩ := bd
    refine ⟨_, (pss_cons (ps_asg (pe_tup (pa_cons (pe_ix ix_tup (pv 1) (pe_int) (fun _ _ => rfl)) (pa_cons (pe_slice sl_tup (pv 1) (po_some (pe_int)) po_none) pa_nil))) (pg_tup rfl (pgs_cons (pg_name (i := 2) sc_law_do.nd rfl (Or.inr rfl)) (pgs_cons (pg_name (i := 3) sc_law_do.nd rfl (Or.inl rfl)) pgs_nil))))
      (pss_cons (ps_if (pt_cmpR op_eq (pv 2) (pe_str) (nomark _)) (pss_one (ps_ret (pe_cf G_law_make (hr.mono (by decide)) (by rfl) S.glo__law_make px (pa_cons (pv 0) (pa_cons (pv 3) pa_nil))))) pss_nil)
      (pss_cons (ps_if (pt_cmpR op_in_seq (pv 2) (pe_tup (pa_cons (pe_str) (pa_cons (pe_str) pa_nil))) rfl) (pss_one (ps_ret (pe_cf G_law_place (hr.mono (by decide)) (by rfl) S.glo__law_place px (pa_cons (pv 0) (pa_cons (pv 2) (pa_cons (pv 3) pa_nil)))))) pss_nil)
      (pss_cons (ps_if (pt_cmpR op_in_seq (pv 2) (pe_tup (pa_cons (pe_str) (pa_cons (pe_str) pa_nil))) rfl) (pss_one ps_never) pss_nil)
      (pss_cons (ps_if (pt_cmpR op_in_seq (pv 2) (pe_tup (pa_cons (pe_str) (pa_cons (pe_str) pa_nil))) rfl) (pss_one (ps_ret (pe_cf G_law_tie (hr.mono (by decide)) (by rfl) S.glo__law_tie px (pa_cons (pv 0) (pa_cons (pv 2) (pa_cons (pv 3) pa_nil)))))) pss_nil)
      (pss_cons (ps_if (pt_cmpR op_in_seq (pv 2) (pe_tup (pa_cons (pe_str) (pa_cons (pe_str) (pa_cons (pe_str) pa_nil)))) rfl) (pss_one (ps_ret (pe_cf G_law_shelve (hr.mono (by decide)) (by rfl) S.glo__law_shelve px (pa_cons (pv 0) (pa_cons (pv 2) (pa_cons (pe_ix ix_tup (pv 3) (pe_int) (fun _ _ => rfl)) pa_nil)))))) pss_nil)
      (pss_cons (ps_if (pt_cmpR op_eq (pv 2) (pe_str) (nomark _)) (pss_one (ps_dput hu (pv 0) (pe_str) (pe_op op_add (pe_dget hu (pv 0) (pe_str) (fun _ _ => rfl)) (pe_int)) rfl)) pss_nil)
      (pss_cons (ps_setLc (i := 4) (own := [("row", 6)]) (g := (gName 6)) (tt := (tOr (tTest (tOp rEq (tVar 2) (tC (.str "empty")))) (tTest (tOp rLeI (tOp rAddI (tOp (rIxT K) (tVar 6) (tC (.int 1))) (tDGet (tVar 0) (tC (.str "keep")))) (tDGet (tVar 0) (tC (.str "day"))))))) (te := (tOp (rIxT K) (tVar 6) (tC (.int 0)))) rfl sc_law_do.nd rfl rfl (sw_true rfl rfl rfl (by decide +kernel)) (pi_list (pe_dget hu (pv 0) (pe_str) (fun _ _ => rfl))) (blkOk_by (N := ["state", "deed", "word", "rest", "some", "many", "row", "number"]) (sc := defScope s_law_do) (by decide +kernel)) (fun _ _ _ _ _ => (pg_name (i := 6) sc_law_do.nd rfl (Or.inl rfl))) (fun _ _ _ _ _ => (pts_one (PW.pt (pw_or (pt_cmpR op_eq (pv 2) (pe_str) (nomark _)) (pw_or1 (pt_cmpR op_le (pe_op op_add (pe_ix ix_tup (pv 6) (pe_int) (fun _ _ => rfl)) (pe_dget hu (pv 0) (pe_str) (fun _ _ => rfl))) (pe_dget hu (pv 0) (pe_str) (fun _ _ => rfl)) (nomark _))))))) (fun _ _ _ _ _ => (pe_ix ix_tup (pv 6) (pe_int) (fun _ _ => rfl))))
      (pss_cons (ps_set (i := 5) sc_law_do.nd rfl (Or.inl rfl) (pe_callB (cr_sum rfl) (by rfl) S.free_sum (by decide +kernel) (pa_cons (pe_lc (own := [("number", 7)]) (g := (gName 7)) (tt := tYes) (te := (tCall (sp_law_lose K) [] E0 (tCons (tVar 0) (tCons (tVar 7) tNil)))) rfl sc_law_do.nd (pi_list (pv 4)) (blkOk_by (N := ["state", "deed", "word", "rest", "some", "many", "row", "number"]) (sc := defScope s_law_do) (by decide +kernel)) (fun _ _ _ _ _ => (pg_name (i := 7) sc_law_do.nd rfl (Or.inl rfl))) (fun _ _ _ _ _ => pts_nil) (fun _ _ _ _ _ => (pe_cf G_law_lose (hr.mono (by decide)) (by rfl) S.glo__law_lose passL (pa_cons (pv 0) (pa_cons (pv 7) pa_nil))))) pa_nil)))
      (pss_one (ps_ret (pe_ifExp (pt_cmpR op_eq (pv 2) (pe_str) (nomark _)) (pv 5) (pe_callTy call_tuple_of (by rfl) S.free_tuple (by decide +kernel) (pa_cons (pv 4) pa_nil)))))))))))))), ?_⟩
    cases dd with
    | make par nm b =>
      refine go_un2 (ev_tup (ea_cons (ev_op (ev_var rfl) ev_int (op_ixT (i := 0) rfl)) (ea_cons (ev_tail (ev_var rfl)) ea_nil)) (by simp)) ?_
      refine go_when (b := true) (eb_eqS rfl (by decide +kernel)) (fun _ => ?_) (fun q => by cases q)
      exact go_retS x (ea_cons (ev_var rfl) (ea_cons (ev_var rfl) ea_nil)) (by cases par <;> rfl) ⟨par, nm, b, rfl, hl, hres⟩ k
    | rename n nm =>
      refine go_un2 (ev_tup (ea_cons (ev_op (ev_var rfl) ev_int (op_ixT (i := 0) rfl)) (ea_cons (ev_tail (ev_var rfl)) ea_nil)) (by simp)) ?_
      refine go_when (b := false) (eb_eqS rfl (by decide +kernel)) (fun q => by cases q) (fun _ => ?_)
      refine go_when (b := true) (eb_inS (bs := ["rename", "move"]) rfl (ea_cons ev_str (ea_cons ev_str ea_nil)) (by decide) (by decide +kernel)) (fun _ => ?_) (fun q => by cases q)
      exact go_retS x (ea_cons (ev_var rfl) (ea_cons (ev_var rfl) (ea_cons (ev_var rfl) ea_nil))) rfl ⟨hl, .inl ⟨n, nm, rfl, hres⟩⟩ k
    | move n par =>
      refine go_un2 (ev_tup (ea_cons (ev_op (ev_var rfl) ev_int (op_ixT (i := 0) rfl)) (ea_cons (ev_tail (ev_var rfl)) ea_nil)) (by simp)) ?_
      refine go_when (b := false) (eb_eqS rfl (by decide +kernel)) (fun q => by cases q) (fun _ => ?_)
      refine go_when (b := true) (eb_inS (bs := ["rename", "move"]) rfl (ea_cons ev_str (ea_cons ev_str ea_nil)) (by decide) (by decide +kernel)) (fun _ => ?_) (fun q => by cases q)
      exact go_retS x (ea_cons (ev_var rfl) (ea_cons (ev_var rfl) (ea_cons (ev_var rfl) ea_nil))) (by cases par <;> rfl) ⟨hl, .inr ⟨h, n, par, rfl, iv.tree, rfl, hres⟩⟩ k
    | tie a b =>
      refine go_un2 (ev_tup (ea_cons (ev_op (ev_var rfl) ev_int (op_ixT (i := 0) rfl)) (ea_cons (ev_tail (ev_var rfl)) ea_nil)) (by simp)) ?_
      refine go_when (b := false) (eb_eqS rfl (by decide +kernel)) (fun q => by cases q) (fun _ => ?_)
      refine go_when (b := false) (eb_inS (bs := ["rename", "move"]) rfl (ea_cons ev_str (ea_cons ev_str ea_nil)) (by decide) (by decide +kernel)) (fun q => by cases q) (fun _ => ?_)
      refine go_when (b := false) (eb_inS (bs := ["write", "copy"]) rfl (ea_cons ev_str (ea_cons ev_str ea_nil)) (by decide) (by decide +kernel)) (fun q => by cases q) (fun _ => ?_)
      refine go_when (b := true) (eb_inS (bs := ["tie", "untie"]) rfl (ea_cons ev_str (ea_cons ev_str ea_nil)) (by decide) (by decide +kernel)) (fun _ => ?_) (fun q => by cases q)
      exact go_retS x (ea_cons (ev_var rfl) (ea_cons (ev_var rfl) (ea_cons (ev_var rfl) ea_nil))) rfl ⟨h, a, b, rfl, ok, .inl ⟨rfl, hres⟩⟩ k
    | untie a b =>
      refine go_un2 (ev_tup (ea_cons (ev_op (ev_var rfl) ev_int (op_ixT (i := 0) rfl)) (ea_cons (ev_tail (ev_var rfl)) ea_nil)) (by simp)) ?_
      refine go_when (b := false) (eb_eqS rfl (by decide +kernel)) (fun q => by cases q) (fun _ => ?_)
      refine go_when (b := false) (eb_inS (bs := ["rename", "move"]) rfl (ea_cons ev_str (ea_cons ev_str ea_nil)) (by decide) (by decide +kernel)) (fun q => by cases q) (fun _ => ?_)
      refine go_when (b := false) (eb_inS (bs := ["write", "copy"]) rfl (ea_cons ev_str (ea_cons ev_str ea_nil)) (by decide) (by decide +kernel)) (fun q => by cases q) (fun _ => ?_)
      refine go_when (b := true) (eb_inS (bs := ["tie", "untie"]) rfl (ea_cons ev_str (ea_cons ev_str ea_nil)) (by decide) (by decide +kernel)) (fun _ => ?_) (fun q => by cases q)
      exact go_retS x (ea_cons (ev_var rfl) (ea_cons (ev_var rfl) (ea_cons (ev_var rfl) ea_nil))) rfl ⟨h, a, b, rfl, ok, .inr ⟨rfl, hres⟩⟩ k
    | cast n =>
      refine go_un2 (ev_tup (ea_cons (ev_op (ev_var rfl) ev_int (op_ixT (i := 0) rfl)) (ea_cons (ev_tail (ev_var rfl)) ea_nil)) (by simp)) ?_
      refine go_when (b := false) (eb_eqS rfl (by decide +kernel)) (fun q => by cases q) (fun _ => ?_)
      refine go_when (b := false) (eb_inS (bs := ["rename", "move"]) rfl (ea_cons ev_str (ea_cons ev_str ea_nil)) (by decide) (by decide +kernel)) (fun q => by cases q) (fun _ => ?_)
      refine go_when (b := false) (eb_inS (bs := ["write", "copy"]) rfl (ea_cons ev_str (ea_cons ev_str ea_nil)) (by decide) (by decide +kernel)) (fun q => by cases q) (fun _ => ?_)
      refine go_when (b := false) (eb_inS (bs := ["tie", "untie"]) rfl (ea_cons ev_str (ea_cons ev_str ea_nil)) (by decide) (by decide +kernel)) (fun q => by cases q) (fun _ => ?_)
      refine go_when (b := true) (eb_inS (bs := ["cast", "back", "gone"]) rfl (ea_cons ev_str (ea_cons ev_str (ea_cons ev_str ea_nil))) (by decide) (by decide +kernel)) (fun _ => ?_) (fun q => by cases q)
      exact go_retS x (ea_cons (ev_var rfl) (ea_cons (ev_var rfl) (ea_cons (ev_op (ev_var rfl) ev_int (op_ixT (i := 0) rfl)) ea_nil))) rfl ⟨h, n, rfl, ok, .inl ⟨rfl, hres⟩⟩ k
    | back n =>
      refine go_un2 (ev_tup (ea_cons (ev_op (ev_var rfl) ev_int (op_ixT (i := 0) rfl)) (ea_cons (ev_tail (ev_var rfl)) ea_nil)) (by simp)) ?_
      refine go_when (b := false) (eb_eqS rfl (by decide +kernel)) (fun q => by cases q) (fun _ => ?_)
      refine go_when (b := false) (eb_inS (bs := ["rename", "move"]) rfl (ea_cons ev_str (ea_cons ev_str ea_nil)) (by decide) (by decide +kernel)) (fun q => by cases q) (fun _ => ?_)
      refine go_when (b := false) (eb_inS (bs := ["write", "copy"]) rfl (ea_cons ev_str (ea_cons ev_str ea_nil)) (by decide) (by decide +kernel)) (fun q => by cases q) (fun _ => ?_)
      refine go_when (b := false) (eb_inS (bs := ["tie", "untie"]) rfl (ea_cons ev_str (ea_cons ev_str ea_nil)) (by decide) (by decide +kernel)) (fun q => by cases q) (fun _ => ?_)
      refine go_when (b := true) (eb_inS (bs := ["cast", "back", "gone"]) rfl (ea_cons ev_str (ea_cons ev_str (ea_cons ev_str ea_nil))) (by decide) (by decide +kernel)) (fun _ => ?_) (fun q => by cases q)
      exact go_retS x (ea_cons (ev_var rfl) (ea_cons (ev_var rfl) (ea_cons (ev_op (ev_var rfl) ev_int (op_ixT (i := 0) rfl)) ea_nil))) rfl ⟨h, n, rfl, ok, .inr (.inl ⟨rfl, hres⟩)⟩ k
    | gone n =>
      refine go_un2 (ev_tup (ea_cons (ev_op (ev_var rfl) ev_int (op_ixT (i := 0) rfl)) (ea_cons (ev_tail (ev_var rfl)) ea_nil)) (by simp)) ?_
      refine go_when (b := false) (eb_eqS rfl (by decide +kernel)) (fun q => by cases q) (fun _ => ?_)
      refine go_when (b := false) (eb_inS (bs := ["rename", "move"]) rfl (ea_cons ev_str (ea_cons ev_str ea_nil)) (by decide) (by decide +kernel)) (fun q => by cases q) (fun _ => ?_)
      refine go_when (b := false) (eb_inS (bs := ["write", "copy"]) rfl (ea_cons ev_str (ea_cons ev_str ea_nil)) (by decide) (by decide +kernel)) (fun q => by cases q) (fun _ => ?_)
      refine go_when (b := false) (eb_inS (bs := ["tie", "untie"]) rfl (ea_cons ev_str (ea_cons ev_str ea_nil)) (by decide) (by decide +kernel)) (fun q => by cases q) (fun _ => ?_)
      refine go_when (b := true) (eb_inS (bs := ["cast", "back", "gone"]) rfl (ea_cons ev_str (ea_cons ev_str (ea_cons ev_str ea_nil))) (by decide) (by decide +kernel)) (fun _ => ?_) (fun q => by cases q)
      exact go_retS x (ea_cons (ev_var rfl) (ea_cons (ev_var rfl) (ea_cons (ev_op (ev_var rfl) ev_int (op_ixT (i := 0) rfl)) ea_nil))) rfl ⟨h, n, rfl, ok, .inr (.inr ⟨rfl, hres⟩)⟩ k
    | empty =>
      refine go_un2 (ev_tup (ea_cons (ev_op (ev_var rfl) ev_int (op_ixT (i := 0) rfl)) (ea_cons (ev_tail (ev_var rfl)) ea_nil)) (by simp)) ?_
      refine go_when (b := false) (eb_eqS rfl (by decide +kernel)) (fun q => by cases q) (fun _ => ?_)
      refine go_when (b := false) (eb_inS (bs := ["rename", "move"]) rfl (ea_cons ev_str (ea_cons ev_str ea_nil)) (by decide) (by decide +kernel)) (fun q => by cases q) (fun _ => ?_)
      refine go_when (b := false) (eb_inS (bs := ["write", "copy"]) rfl (ea_cons ev_str (ea_cons ev_str ea_nil)) (by decide) (by decide +kernel)) (fun q => by cases q) (fun _ => ?_)
      refine go_when (b := false) (eb_inS (bs := ["tie", "untie"]) rfl (ea_cons ev_str (ea_cons ev_str ea_nil)) (by decide) (by decide +kernel)) (fun q => by cases q) (fun _ => ?_)
      refine go_when (b := false) (eb_inS (bs := ["cast", "back", "gone"]) rfl (ea_cons ev_str (ea_cons ev_str (ea_cons ev_str ea_nil))) (by decide) (by decide +kernel)) (fun q => by cases q) (fun _ => ?_)
      refine go_when (b := false) (eb_eqS rfl (by decide +kernel)) (fun q => by cases q) (fun _ => ?_)
      have hcl := ok.wf.cl
      refine go_asgNew (el_is (el_lcPF (fun _ => true) (ev_is (s_casts x.rd (ev_var rfl)) rfl) (by show h.casts.length < _; omega) (fun p hp => eb_is (eb_or (b := true) (c := true) (eb_eqS rfl (by decide +kernel)) fun q => by cases q) rfl) (fun p hp => op_fst (ev_var rfl))) (by rw [List.filter_eq_self.mpr fun _ _ => rfl])) fun a vs H2 hn e2 hv il => ?_
      have hvs := IsL.ints (ns := h.casts.map (·.1)) il
      subst hvs
      refine go_loseComp (ns := h.casts.map (·.1)) rfl rfl (x.mono e2) ok hv (fun m => x.sfp_some m hn) (by rw [List.length_map]; omega) fun H3 G3 x3 r3 f3 => ?_
      cases hres
      exact go_ret (ev_if (b := true) (eb_eqS rfl (by decide +kernel)) (fun _ => ev_var rfl) (fun q => by cases q)) fun v H4 e4 hv4 => k v H4 G3 (x3.mono e4) ((Fr.ex_trans e2 r3).trans_ex e4) (SFresh.ex e2 f3) hv4
    | next_day =>
      refine go_un2 (ev_tup (ea_cons (ev_op (ev_var rfl) ev_int (op_ixT (i := 0) rfl)) (ea_cons (ev_tail (ev_var rfl)) ea_nil)) (by simp)) ?_
      refine go_when (b := false) (eb_eqS rfl (by decide +kernel)) (fun q => by cases q) (fun _ => ?_)
      refine go_when (b := false) (eb_inS (bs := ["rename", "move"]) rfl (ea_cons ev_str (ea_cons ev_str ea_nil)) (by decide) (by decide +kernel)) (fun q => by cases q) (fun _ => ?_)
      refine go_when (b := false) (eb_inS (bs := ["write", "copy"]) rfl (ea_cons ev_str (ea_cons ev_str ea_nil)) (by decide) (by decide +kernel)) (fun q => by cases q) (fun _ => ?_)
      refine go_when (b := false) (eb_inS (bs := ["tie", "untie"]) rfl (ea_cons ev_str (ea_cons ev_str ea_nil)) (by decide) (by decide +kernel)) (fun q => by cases q) (fun _ => ?_)
      refine go_when (b := false) (eb_inS (bs := ["cast", "back", "gone"]) rfl (ea_cons ev_str (ea_cons ev_str (ea_cons ev_str ea_nil))) (by decide) (by decide +kernel)) (fun q => by cases q) (fun _ => ?_)
      have hcl := ok.wf.cl
      have ok1 : OkH h.tomorrow := let ⟨b, i, hb⟩ := ok; ⟨b, i.tomorrow, hb⟩
      refine go_when (b := true) (eb_eqS rfl (by decide +kernel)) (fun _ => ?_) (fun q => by cases q)
      refine go_last (go_sput (s' := h.tomorrow.abs) x (ev_op (s_day x.rd (ev_var rfl)) ev_int op_addI) (ev_var rfl) rfl rfl rfl rfl rfl fun H1 x1 r1 => go_next fun σ H1' e1' n1 => ?_)
      refine (?_ : Go _ _ H1 _) σ H1' e1' n1
      refine go_asgNew (el_lcPF (fun q => decide (q.2 + h.keep ≤ h.today + 1)) (ev_is (s_casts x1.rd (ev_var rfl)) rfl) (by show h.casts.length < _; omega) (fun p hp => eb_is (eb_or (b := false) (eb_eqS rfl (by decide +kernel)) fun _ => eb_test (ev_op (ev_op (op_snd (ev_var rfl)) (ev_is (s_keep x1.rd (ev_var rfl)) rfl) op_addI) (ev_is (s_day x1.rd (ev_var rfl)) rfl) op_leI)) rfl) (fun p hp => op_fst (ev_var rfl))) fun a vs H2 hn e2 hv il => ?_
      have hvs := IsL.ints (ns := h.tomorrow.dueNs) il
      subst hvs
      have dl : h.tomorrow.dueNs.length ≤ h.casts.length := by
        unfold HS.dueNs
        rw [List.length_map]
        exact List.length_filter_le _ _
      refine go_loseComp (h := h.tomorrow) (ns := h.tomorrow.dueNs) rfl rfl (x1.mono e2) ok1 hv (fun m => x1.sfp_some m hn) (by omega) fun H3 G3 x3 r3 f3 => ?_
      cases hres
      have ha3 : H3 a = some (.lst (h.tomorrow.dueNs.map V.int)) := r3 a _ hv fun m => x1.sfp_some m hn
      refine go_ret (ev_if (b := false) (eb_eqS rfl (by decide +kernel)) (fun q => by cases q) (fun _ => ev_cb (ea_cons (ev_as (ev_var rfl) (show Is H3 (.lst (h.tomorrow.dueNs.map D.int)) (.ref a) from ⟨a, _, rfl, ha3, isL_ints _ _⟩)) ea_nil) cl_tupleOf)) fun v H4 e4 hv4 => k v H4 G3 (x3.mono e4) ((Fr.strans r1 SFresh.refl (Fr.ex_trans e2 r3)).trans_ex e4) (SFresh.refl.trans r1 (SFresh.ex e2 f3)) hv4
    | _ => cases hok
end Cs
set_option Elab.async false
set_option linter.all false
set_option maxRecDepth 100000
set_option maxHeartbeats 4000000
namespace Cs
open PySem PySem.Spec PyProof.Rows L2
/-! ### each deed: the house and the law's state do alike -/
/-- the next bound -/
def nb (b : Nat) : Nat := max (b + 1) (min 24 (2 * b))
theorem nb_ge (b : Nat) : b + 1 ≤ nb b := Nat.le_max_left _ _
def Step (h : HS) (b : Nat) (dd : Deed) : Prop := ∃ d h', h.toldO dd = .ok d h' ∧ h.doS dd = (d, h'.abs) ∧ HInv h' (nb b) ∧ dep 5 d = true ∧ d.pure = true
def okNm (dd : Deed) : Prop := match dd with
  | .make _ nm _ => nm.length ≤ 3
  | .rename _ nm => nm.length ≤ 3
  | .write _ tx => tx.length ≤ 1000
  | _ => True
theorem told_ok {h h' : HS} {dd : Deed} {d : D} (e : h.doO dd = .ok d h') : h.toldO dd = .ok d h' := by
  unfold HS.toldO
  rw [e]
theorem told_err {h : HS} {dd : Deed} {x : Str} (e : h.doO dd = .err x) : h.toldO dd = .ok (.str (wordOf x)) h := by
  unfold HS.toldO
  rw [e]
theorem step_err {h : HS} {b : Nat} {dd : Deed} {x y : Str} (i : HInv h b) (e : h.doO dd = .err x) (hw : wordOf x = y) (hs : h.doS dd = (.str y, h.abs)) : Step h b dd := by
  refine ⟨.str y, h, ?_, hs, i.mono (Nat.le_of_succ_le (nb_ge b)), dep_flat rfl, rfl⟩
  rw [told_err e, hw]
theorem step_make {h : HS} {b : Nat} (i : HInv h b) (par : Option Int) (nm : Str) (bx : Bool) (hn : nm.length ≤ 3) : Step h b (.make par nm bx) := by
  by_cases c1 : h.noBox par = true
  · refine step_err i (x := "NoBox") (y := "no box") ?_ (by decide +kernel) ?_
    · show h.makeO par nm bx = _
      unfold HS.makeO
      rw [if_pos c1]
    · show h.abs.makeS par nm bx = _
      unfold LS.makeS
      rw [abs_noBox, if_pos c1]
  · by_cases c2 : nm ∈ h.namesIn par none
    · refine step_err i (x := "Taken") (y := "taken") ?_ (by decide +kernel) ?_
      · show h.makeO par nm bx = _
        unfold HS.makeO
        rw [if_neg c1, if_pos c2]
      · show h.abs.makeS par nm bx = _
        unfold LS.makeS
        rw [abs_noBox, if_neg c1, abs_names, if_pos c2]
    · have c1' : h.noBox par = false := by simpa using c1
      refine ⟨.int (h.count + 1), h.new par nm (if bx then none else some ""), told_ok ?_, ?_, (i.new (noBox_par c1') (by omega) (fun x hx => ?_)).mono (nb_ge b), dep_flat rfl, rfl⟩
      · show h.makeO par nm bx = _
        unfold HS.makeO
        rw [if_neg c1, if_neg c2]
      · show h.abs.makeS par nm bx = _
        unfold LS.makeS
        rw [abs_noBox, if_neg c1, abs_names, if_neg c2]
        have f2 := (i.new_free (n := h.count + 1) (by omega)).2
        have := abs_put h (h.count + 1) ⟨par, nm, if bx then none else some ""⟩
        rw [f2] at this
        show (_, _) = _
        unfold HS.new
        refine Prod.ext rfl ?_
        show ({ h.abs with count := h.count + 1, rows := put h.abs.rows (h.count + 1) ⟨⟨par, nm, if bx then none else some ""⟩, none⟩ } : LS) = _
        rw [← this]
        rfl
      · cases bx
        · cases hx
          decide +kernel
        · cases hx
theorem step_rename {h : HS} {b : Nat} (i : HInv h b) (n : Int) (nm : Str) (hn : nm.length ≤ 3) : Step h b (.rename n nm) := by
  by_cases c1 : h.there n = true
  · obtain ⟨r, hr⟩ := there_row c1
    have hra : get h.abs.rows n = some ⟨r, get h.shelved n⟩ := by rw [abs_get, hr]; rfl
    by_cases c2 : nm ∈ h.namesIn r.par (some n)
    · refine step_err i (x := "Taken") (y := "taken") ?_ (by decide +kernel) ?_
      · show h.renameO n nm = _
        unfold HS.renameO
        rw [if_pos c1, hr]
        dsimp only
        rw [if_pos c2]
      · show h.abs.renameS n nm = _
        unfold LS.renameS
        rw [abs_there, if_pos c1, hra]
        dsimp only
        rw [abs_names, if_pos c2]
    · refine ⟨.non, { h with rows := put h.rows n { r with name := nm } }, told_ok ?_, ?_, (i.reput hr (r' := { r with name := nm }) rfl rfl (by show nm.length ≤ _; omega) (fun x hx => i.tx n r x hr hx)).mono (nb_ge b), dep_flat rfl, rfl⟩
      · show h.renameO n nm = _
        unfold HS.renameO
        rw [if_pos c1, hr]
        dsimp only
        rw [if_neg c2]
      · show h.abs.renameS n nm = _
        unfold LS.renameS
        rw [abs_there, if_pos c1, hra]
        dsimp only
        rw [abs_names, if_neg c2]
        refine Prod.ext rfl ?_
        show ({ h.abs with rows := put h.abs.rows n ⟨{ r with name := nm }, get h.shelved n⟩ } : LS) = _
        rw [← abs_put]
        rfl
  · have hta : ¬ h.abs.there (some n) = true := by rw [abs_there]; exact c1
    refine step_err i (x := "NoThing") (y := "no thing") ?_ (by decide +kernel) ?_
    · show h.renameO n nm = _
      unfold HS.renameO
      rw [if_neg c1]
    · show h.abs.renameS n nm = _
      unfold LS.renameS
      rw [if_neg hta]
theorem HInv.moved {h : HS} {b : Nat} (i : HInv h b) {n : Int} {r : Row} {par : Option Int} (ht : h.there n = true) (hr : get h.rows n = some r) (hp : ∀ p, par = some p → ∃ r, get h.rows p = some r ∧ r.text = none ∧ get h.shelved p = none) (hin : ∀ p, par = some p → ¬ Desc h n p) : HInv { h with rows := put h.rows n { r with par := par } } (b + 1) := by
  have hk : ({ h with rows := put h.rows n { r with par := par } } : HS).keys = h.keys := keys_put_old (by rw [hr]; rfl)
  have hg : ∀ {k : Int} {q : Row}, get (put h.rows n { r with par := par }) k = some q → (k = n ∧ q = { r with par := par }) ∨ (k ≠ n ∧ get h.rows k = some q) := fun {k q} z => by
    rw [get_put] at z
    by_cases e : k = n
    · rw [if_pos e] at z
      cases z
      exact .inl ⟨e, rfl⟩
    · rw [if_neg e] at z
      exact .inr ⟨e, z⟩
  have lift : ∀ {p : Int} {r' : Row}, get h.rows p = some r' → r'.text = none → ∃ r2, get (put h.rows n { r with par := par }) p = some r2 ∧ r2.text = none := fun {p r'} z tx => by
    by_cases e : p = n
    · subst e
      rw [hr] at z
      cases z
      exact ⟨_, get_put_self, tx⟩
    · exact ⟨r', by rw [get_put_ne e]; exact z, tx⟩
  have hs := there_none ht
  refine ⟨?_, by rw [hk]; exact i.kn, by rw [hk]; exact i.kb, i.c0, i.sn, by rw [hk]; exact i.sub, i.cn, i.cr, i.cs, i.pn, by rw [hk]; exact i.pe, ?_, ?_, ?_, ?_, ?_, ?_⟩
  · have : ({ h with rows := put h.rows n { r with par := par } } : HS).keys.length = h.keys.length := by rw [hk]
    simp only [HS.keys, List.length_map] at this
    have := i.rl
    show (put h.rows n { r with par := par }).length ≤ b + 1
    omega
  · intro k q hq
    rcases hg hq with ⟨_, rfl⟩ | ⟨_, z⟩
    · have := i.nm n r hr
      show r.name.length ≤ _
      omega
    · have := i.nm k q z
      omega
  · intro k q x hq hqx
    rcases hg hq with ⟨_, rfl⟩ | ⟨_, z⟩
    · exact i.tx n r x hr hqx
    · exact i.tx k q x z hqx
  · intro k q p hq hpar hsh
    rcases hg hq with ⟨rfl, rfl⟩ | ⟨_, z⟩
    · obtain ⟨r', h1, h2, h3⟩ := hp p hpar
      obtain ⟨r2, g1, g2⟩ := lift h1 h2
      exact ⟨r2, g1, g2, h3.trans hs.symm⟩
    · obtain ⟨r', h1, h2, h3⟩ := i.pr k q p z hpar hsh
      obtain ⟨r2, g1, g2⟩ := lift h1 h2
      exact ⟨r2, g1, g2, h3⟩
  · obtain ⟨rank, hrk⟩ := i.ac
    refine ⟨fun k => if descB h n k = true then rank k + par.elim 0 (fun p => rank p + 1) else rank k, fun k q p hq hpar hpk hsh => ?_⟩
    rw [hk] at hpk
    dsimp only
    rcases hg hq with ⟨rfl, rfl⟩ | ⟨e, z⟩
    · have hpar' : par = some p := hpar
      rw [if_pos (descB_t.mpr .self), if_neg (fun c => hin p hpar' (descB_t.mp c)), hpar']
      show rank p < rank k + (rank p + 1)
      omega
    · have lt := hrk k q p z hpar hpk hsh
      by_cases dk : Desc h n k
      · obtain ⟨_, r', p', g1, g2, g3⟩ := (desc_up e).mp dk
        rw [z] at g1
        cases g1
        rw [hpar] at g2
        cases g2
        rw [if_pos (descB_t.mpr g3), if_pos (descB_t.mpr dk)]
        omega
      · have hsh' : get h.shelved p = get h.shelved k := hsh
        have dp : ¬ Desc h n p := fun dp => dk (.step z hpar (shelved_there (get_keyI z) (hsh'.symm.trans (there_none (Desc.there ht dp)))) dp)
        rw [if_neg (fun c => dp (descB_t.mp c)), if_neg (fun c => dk (descB_t.mp c))]
        exact lt
  · intro k q p hq hpar
    rcases hg hq with ⟨_, rfl⟩ | ⟨_, z⟩
    · obtain ⟨r', h1, _⟩ := hp p hpar
      exact (i.kb p (get_keyI h1)).2
    · exact i.pb k q p z hpar
  · intro k q p q' hq hpar hq'
    have base : ∀ r0, get h.rows p = some r0 → r0.text = none := fun r0 h0 => by
      rcases hg hq with ⟨_, rfl⟩ | ⟨_, z⟩
      · obtain ⟨r', h1, h2, _⟩ := hp p hpar
        rw [h0] at h1
        cases h1
        exact h2
      · exact i.bx k q p r0 z hpar h0
    rcases hg hq' with ⟨rfl, rfl⟩ | ⟨_, z'⟩
    · exact base r hr
    · exact base q' z'
theorem step_move {h : HS} {b : Nat} (i : HInv h b) (n : Int) (par : Option Int) : Step h b (.move n par) := by
  by_cases c1 : h.there n = true
  · obtain ⟨r, hr⟩ := there_row c1
    by_cases c2 : h.noBox par = true
    · refine step_err i (x := "NoBox") (y := "no box") ?_ (by decide +kernel) ?_
      · show h.moveO n par = _
        unfold HS.moveO
        rw [if_pos c1, if_pos c2]
      · show h.moveS n par = _
        unfold HS.moveS
        rw [if_pos c1, if_pos c2]
    · by_cases c3 : oMem par (h.wholeL n) = true
      · refine step_err i (x := "Inside") (y := "inside") ?_ (by decide +kernel) ?_
        · show h.moveO n par = _
          unfold HS.moveO
          rw [if_pos c1, if_neg c2, if_pos c3]
        · show h.moveS n par = _
          unfold HS.moveS
          rw [if_pos c1, if_neg c2, if_pos c3]
      · by_cases c4 : r.name ∈ h.namesIn par (some n)
        · refine step_err i (x := "Taken") (y := "taken") ?_ (by decide +kernel) ?_
          · show h.moveO n par = _
            unfold HS.moveO
            rw [if_pos c1, if_neg c2, if_neg c3, hr]
            dsimp only
            rw [if_pos c4]
          · show h.moveS n par = _
            unfold HS.moveS
            rw [if_pos c1, if_neg c2, if_neg c3, hr]
            dsimp only
            rw [if_pos c4]
        · refine ⟨.non, { h with rows := put h.rows n { r with par := par } }, told_ok ?_, ?_, (i.moved c1 hr (noBox_par (by simpa using c2)) (fun p hp d => ?_)).mono (nb_ge b), dep_flat rfl, rfl⟩
          · show h.moveO n par = _
            unfold HS.moveO
            rw [if_pos c1, if_neg c2, if_neg c3, hr]
            dsimp only
            rw [if_neg c4]
          · show h.moveS n par = _
            unfold HS.moveS
            rw [if_pos c1, if_neg c2, if_neg c3, hr]
            dsimp only
            rw [if_neg c4]
            refine Prod.ext rfl ?_
            show ({ h.abs with rows := put h.abs.rows n ⟨{ r with par := par }, get h.shelved n⟩ } : LS) = _
            rw [← abs_put]
            rfl
          · subst hp
            exact c3 (decide_eq_true ((mem_whole c1).mpr d))
  · refine step_err i (x := "NoThing") (y := "no thing") ?_ (by decide +kernel) ?_
    · show h.moveO n par = _
      unfold HS.moveO
      rw [if_neg c1]
    · show h.moveS n par = _
      unfold HS.moveS
      rw [if_neg c1]
theorem step_told {h : HS} {b : Nat} {dd : Deed} (i : HInv h b) (hdo : h.doS dd = toS ((h.doO dd).told h)) (hx : ∀ d h', h.doO dd = .ok d h' → HInv h' (nb b) ∧ dep 5 d = true ∧ d.pure = true) : Step h b dd := by
  cases e : h.doO dd with
  | ok d h' =>
    obtain ⟨h1, h2, h3⟩ := hx d h' e
    exact ⟨d, h', told_ok e, by rw [hdo, e]; rfl, h1, h2, h3⟩
  | err x => exact step_err i e rfl (by rw [hdo, e]; rfl)
theorem nb_le (b : Nat) : b ≤ nb b := Nat.le_of_succ_le (nb_ge b)
theorem step_v3 {h : HS} {b : Nat} (i : HInv h b) (hb : b < 64) : (∀ x y, Step h b (.tie x y)) ∧ (∀ x y, Step h b (.untie x y)) ∧ (∀ n, Step h b (.back n)) ∧ (∀ n, Step h b (.gone n)) ∧ (∀ n, Step h b (.cast n)) ∧ Step h b .empty ∧ Step h b .next_day := by
  refine ⟨fun x y => step_told i rfl fun d h' e => ?_, fun x y => step_told i rfl fun d h' e => ?_, fun n => step_told i rfl fun d h' e => ?_, fun n => step_told i rfl fun d h' e => ?_, fun n => step_told i rfl fun d h' e => ?_, step_told i rfl fun d h' e => ?_, step_told i rfl fun d h' e => ?_⟩
  · obtain ⟨h1, rfl⟩ := tie_inv i (show h.tieO x y = .ok d h' from e)
    exact ⟨h1.mono (nb_le b), dep_flat rfl, rfl⟩
  · obtain ⟨h1, rfl⟩ := untie_inv i (show h.untieO x y = .ok d h' from e)
    exact ⟨h1.mono (nb_le b), dep_flat rfl, rfl⟩
  · have e' : h.backO n = .ok d h' := e
    unfold HS.backO at e'
    split at e'
    · rename_i c
      split at e'
      · rename_i r hr
        cases e'
        exact ⟨(i.back hb c hr).mono (nb_ge b), dep_flat rfl, rfl⟩
      · cases e'
    · cases e'
  · have e' : h.goneO n = .ok d h' := e
    unfold HS.goneO at e'
    split at e'
    · cases e'
      exact ⟨(i.lose n).mono (nb_le b), dep_flat rfl, rfl⟩
    · cases e'
  · have e' : h.castO n = .ok d h' := e
    by_cases c : h.there n = true
    · rw [cast_eq c] at e'
      cases e'
      exact ⟨(i.cast c).mono (nb_le b), dep_flat rfl, rfl⟩
    · unfold HS.castO at e'
      rw [if_neg c] at e'
      cases e'
  · have e' : h.emptyO = .ok d h' := e
    unfold HS.emptyO at e'
    cases e'
    exact ⟨i.loseAll.mono (nb_le b), dep_flat rfl, rfl⟩
  · have e' : h.nextO = .ok d h' := e
    unfold HS.nextO at e'
    cases e'
    have dl : h.tomorrow.dueNs.length ≤ h.casts.length := by
      unfold HS.dueNs
      rw [List.length_map]
      exact List.length_filter_le _ _
    have := i.clen
    exact ⟨i.tomorrow.loseAll.mono (nb_le b), dep_ints (by omega), ints_pure _⟩
/-! ### how many numbers there are -/
theorem loseAll_count : ∀ (ns : List Int) (h : HS), (loseAll h ns).count = h.count
  | [], _ => rfl
  | n :: ns, h => loseAll_count ns (h.loseH n)
theorem told_count {h : HS} {b : Nat} (i : HInv h b) {dd : Deed} (ok : okDeed dd = true) (oa : okAt h dd) {d : D} {h' : HS} (e : h.toldO dd = .ok d h') : h'.count ≤ h.count + 12 := by
  unfold HS.toldO at e
  cases hd : h.doO dd with
  | err x =>
    rw [hd] at e
    cases e
    omega
  | ok d1 h1 =>
    rw [hd] at e
    cases e
    cases dd with
    | make par nm bx =>
      simp only [HS.doO, HS.makeO] at hd
      split at hd
      · cases hd
      · split at hd
        · cases hd
        · cases hd
          show h.count + 1 ≤ _
          omega
    | rename n nm =>
      simp only [HS.doO, HS.renameO] at hd
      split at hd
      · split at hd
        · split at hd
          · cases hd
          · cases hd
            show h.count ≤ _
            omega
        · cases hd
      · cases hd
    | move n par =>
      simp only [HS.doO, HS.moveO] at hd
      split at hd
      · split at hd
        · cases hd
        · split at hd
          · cases hd
          · split at hd
            · split at hd
              · cases hd
              · cases hd
                show h.count ≤ _
                omega
            · cases hd
      · cases hd
    | tie a b =>
      simp only [HS.doO, HS.tieO] at hd
      split at hd
      · split at hd
        · split at hd
          · cases hd
          · split at hd
            · cases hd
              omega
            · cases hd
              show h.count ≤ _
              omega
        · cases hd
      · cases hd
    | untie a b =>
      simp only [HS.doO, HS.untieO] at hd
      split at hd
      · split at hd
        · split at hd
          · cases hd
            show h.count ≤ _
            omega
          · cases hd
        · cases hd
      · cases hd
    | cast n =>
      simp only [HS.doO, HS.castO] at hd
      split at hd
      · cases hd
        show h.count ≤ _
        omega
      · cases hd
    | back n =>
      simp only [HS.doO, HS.backO] at hd
      split at hd
      · split at hd
        · cases hd
          show h.count ≤ _
          omega
        · cases hd
      · cases hd
    | gone n =>
      simp only [HS.doO, HS.goneO] at hd
      split at hd
      · cases hd
        show h.count ≤ _
        omega
      · cases hd
    | empty =>
      simp only [HS.doO, HS.emptyO] at hd
      cases hd
      rw [loseAll_count]
      omega
    | next_day =>
      simp only [HS.doO, HS.nextO] at hd
      cases hd
      rw [loseAll_count]
      show h.count ≤ _
      omega
    | _ => cases ok
end Cs
set_option Elab.async false
set_option linter.all false
set_option maxRecDepth 100000
set_option maxHeartbeats 4000000
namespace Cs
open PySem PySem.Spec PyProof.Rows L2
theorem mk_b {P : Program} {w : World} {K : PySem.W.Frag} {mg : Str → Option Value} {base : Heap} {k : Nat} {f : Addr} {ps N : List Str} {x qual : Str} {st : Stmt} {sp : Sp} (F : Df K x qual st f ps) (S : FnScope N ps (defScope st)) (len : ∀ vs H Q E, sp vs H Q E → vs.length = ps.length)
    (hbody : ∀ (cdv : Value) (A : Around) (outer : List Env) (s : Shared) (H : Hp) (vs : List V) (Q : VK) (E : XK), Bd P w K mg base N qual (defScope st) f cdv A outer s H E k → sp vs H Q E →
      ∃ t, PSs (cxOf (L2.CX P w) P w K mg base N qual (defScope st) f cdv A outer s H E) (defBody st) t ∧ t { nx := fun _ H' => Q .non H', rt := Q } (start N vs) H) : Fk P w K mg base (k + 1) f ps sp := mk_fk F S len fun cdv A outer s H vs Q E hr h => hbody cdv A outer s H vs Q E (bd_of hr) h
/-! ### _law_cells: a list of its own -/
theorem el_lcR {ds : List (Option D)} {H : Hp} {te : TE} {tt : TT} {j : Nat} {tr : TA} {n : Int} (g : Nat → Option D) (hl : EvA tr ds H [.int n]) (h0 : 0 ≤ n) (h1 : n ≤ 100000) (ht : ∀ i : Nat, (i : Int) < n → EvB tt (ds.set j (some (.int (i : Int)))) H (g i).isSome)
    (he : ∀ i : Nat, (i : Int) < n → ∀ y, g i = some y → EvD te (ds.set j (some (.int (i : Int)))) H y ∧ y.pure = true) : EvL (tLc (iRng1 tr) (gName j) tt te [j]) ds H ((List.range n.toNat).filterMap g) := fun σ H0 e nn Q q =>
  hl σ H0 e nn _ fun vs H1 e1 hv => by
    obtain ⟨v, r, rfl, hv, hr⟩ := hv
    cases (show _ = _ from hr)
    cases (show _ = _ from hv)
    refine ⟨n, rfl, by omega, by omega, fun p hp => lc_range (lo := 0) (n := n.toNat) (fun i H' => Acc H1 p ((List.range i).filterMap g) H') (Acc.zero hp) (fun i H' hi A => ?_) fun H' A => ?_⟩
    · rw [Int.zero_add]
      refine ⟨by simp [wipe], ?_⟩
      have hs : (List.range (i + 1)).filterMap g = (List.range i).filterMap g ++ (g i).toList := by
        rw [List.range_succ, List.filterMap_append]
        cases e : g i <;> simp [e]
      rw [hs]
      refine lc_turn (ds2 := ds.set j (some (.int (i : Int)))) (H0 := H) (e.trans e1) A ?_ ?_ (ht i (by omega)) (he i (by omega))
      · simp only [wipe, List.set_set]
        exact ((nn.mono e1).mono A.2.1).set (d := .int (i : Int)) (v := .int (i : Int)) rfl j
      · have := filterMap_len g (List.range i)
        rw [List.length_range] at this
        omega
    · obtain ⟨hn, ex, acc, c, d, _⟩ := A
      exact q p acc H' (e1.free hn) (e1.trans ex) c d
def sp_law_cellsN (K : PySem.W.Frag) : Sp := fun vs H Q _ => ∃ a ns f m, vs = [.ref a, .int f, .int m] ∧ SqL K H a (ns.map V.int) ∧ 0 ≤ f ∧ 0 ≤ m ∧ m ≤ 100000 ∧ ∀ l H', H l = none → Ex H H' → H' l = some (.lst ((cellsV ns f m).map V.int)) → Q (.ref l) H'
theorem okN_law_cells {P : Program} {w : World} {K : PySem.W.Frag} {mg : Str → Option Value} {base : Heap} (S : Says K mg) : Fk P w K mg base 2 (He.fAd K ("_law_cells", none)) ["script", "first", "many"] (sp_law_cellsN K) := by
  have G_law_cell := ok_law_cell (P := P) (w := w) (base := base) S
  refine mk_fk S.df_law_cells sc_law_cells (fun vs H Q E h => ?_) fun cdv A outer s H vs Q E hr h => ?_
  · obtain ⟨a, ns, f, m, rfl, _⟩ := h
    rfl
  · obtain ⟨a, ns, f, m, rfl, hS, hf, h0, h1, k⟩ := h
    refine ⟨_, (pss_one (ps_ret (pe_lc (own := [("turn", 3)]) (g := (gName 3)) (tt := tYes) (te := (tOp rAddI (tOp rAddI (tCall (sp_law_cell K) [] E0 (tCons (tVar 0) (tCons (tOp rAddI (tVar 1) (tOp rModI (tVar 3) (tC (.int 7)))) tNil))) (tOp rMulI (tC (.int 41)) (tVar 3))) (tVar 1))) rfl sc_law_cells.nd (pi_range1 (by rfl) S.free_range (pa_cons (pv 2) pa_nil)) (blkOk_by (N := ["script", "first", "many", "turn"]) (sc := defScope s_law_cells) (by decide +kernel)) (fun _ _ _ _ _ => (pg_name (i := 3) sc_law_cells.nd rfl (Or.inl rfl))) (fun _ _ _ _ _ => pts_nil) (fun _ _ _ _ _ => (pe_op op_add (pe_op op_add (pe_cf G_law_cell (hr.mono (by decide)) (by rfl) S.glo__law_cell passL (pa_cons (pv 0) (pa_cons (pe_op op_add (pv 1) (pe_op op_mod (pv 3) (pe_int))) pa_nil))) (pe_op op_mul (pe_int) (pv 3))) (pv 1)))))), ?_⟩
    have ee : (cellsV ns f m).map D.int = (List.range m.toNat).filterMap fun (t : Nat) => some (D.int (cellOf ns (f + (t : Int) % 7) + 41 * (t : Int) + f)) := by
      unfold cellsV
      rw [List.map_map, ← List.filterMap_eq_map]
      rfl
    have hE : EnvOk H (start ["script", "first", "many", "turn"] [.ref a, .int f, .int m]) [some (.obj a), some (.int f), some (.int m), none] := ⟨rfl, rfl, rfl, trivial⟩
    refine (el_lcR (ds := [some (.obj a), some (.int f), some (.int m), none]) (H := H) (fun (t : Nat) => some (D.int (cellOf ns (f + (t : Int) % 7) + 41 * (t : Int) + f))) (ea_cons (ev_var rfl) ea_nil) h0 h1 (fun i hi => eb_yes) (fun i hi y hy => ?_)) _ H (Same.refl _) hE _ fun p vs H2 hp e2 hv hl => ?_
    · cases hy
      refine ⟨ev_op (ev_op (s_cell hS ?_ (ev_var rfl) (ev_op (ev_var rfl) (ev_op (ev_var rfl) ev_int (op_modI (by decide))) op_addI)) (ev_op ev_int (ev_var rfl) (op_mulI (.inl ⟨by decide, by decide⟩))) op_addI) (ev_var rfl) op_addI, rfl⟩
      omega
    · rw [← ee] at hl
      rw [hl.ints] at hv
      exact k p H2 hp e2 hv
/-! ### every deed that is drawn -/
theorem name_le (c : Int) : (nameV c).length ≤ 3 := by
  have n1 := mix_lt c 9907 6 (by decide)
  have h3 : (lettersV c 3).length = 3 := letters_len c 3
  have h1 : (lettersV c 1).length = 1 := letters_len c 1
  unfold nameV nameL
  have hm : (mixV c 9907 6).toNat < 6 := by omega
  generalize (mixV c 9907 6).toNat = m at hm
  match m, hm with
  | 0, _ => show Str.length "a" ≤ 3; decide +kernel
  | 1, _ => show Str.length "b" ≤ 3; decide +kernel
  | 2, _ => show Str.length "ab" ≤ 3; decide +kernel
  | 3, _ => show (lettersV c 1).length ≤ 3; omega
  | 4, _ => show (lettersV c 3).length ≤ 3; omega
  | 5, _ => show Str.length "c" ≤ 3; decide +kernel
theorem text_le (c : Int) : (textV c).length ≤ 1000 := by
  unfold textV
  have h1 := TK.replace_len (cutS (lettersV (c + 3) 9) (some (mixV c 9887 10)) none) "e" " "
  have h2 := cutS_length (lettersV (c + 3) 9) (some (mixV c 9887 10)) none
  rw [letters_len] at h2
  have h3 : (cutS (lettersV (c + 3) 9) (some (mixV c 9887 10)) none).length ≤ 9 := h2
  have e1 : (" " : Str).length = 1 := by decide +kernel
  rw [e1] at h1
  omega
theorem deed_okAt (h : HS) (c : Int) (w : Wd) : okAt h (h.abs.deedW c w) := by
  cases w with
  | make => exact name_le c
  | rename => exact name_le c
  | write => exact text_le c
  | untie =>
    unfold LS.deedW
    dsimp only
    split <;> trivial
  | _ => trivial
def okW : Wd → Bool
  | .make => true
  | .rename => true
  | .move => true
  | .tie => true
  | .untie => true
  | .back => true
  | .gone => true
  | .cast => true
  | .empty => true
  | .next_day => true
  | _ => false
theorem okW_deed (s : LS) (c : Int) {w : Wd} (h : okW w = true) : okDeed (s.deedW c w) = true := by
  cases w <;> first | rfl | (unfold LS.deedW; dsimp only; split <;> rfl) | cases h
theorem step_all {h : HS} {b : Nat} (i : HInv h b) (hb : b < 64) {dd : Deed} (ok : okDeed dd = true) (oa : okAt h dd) : Step h b dd := by
  cases dd with
  | make par nm bx => exact step_make i par nm bx oa
  | rename n nm => exact step_rename i n nm oa
  | move n par => exact step_move i n par
  | tie x y => exact (step_v3 i hb).1 x y
  | untie x y => exact (step_v3 i hb).2.1 x y
  | back n => exact (step_v3 i hb).2.2.1 n
  | gone n => exact (step_v3 i hb).2.2.2.1 n
  | cast n => exact (step_v3 i hb).2.2.2.2.1 n
  | empty => exact (step_v3 i hb).2.2.2.2.2.1
  | next_day => exact (step_v3 i hb).2.2.2.2.2.2
  | _ => cases ok
def bnd (b : Nat) : Nat → Nat
  | 0 => b
  | n + 1 => nb (bnd b n)
theorem bnd_le (b n : Nat) : bnd b n ≤ bnd b (n + 1) := Nat.le_of_succ_le (nb_ge _)
theorem bnd_mono (b : Nat) {i n : Nat} (h : i ≤ n) : bnd b i ≤ bnd b n := by
  induction h with
  | refl => exact Nat.le_refl _
  | step _ ih => exact Nat.le_trans ih (bnd_le b _)
/-! ### _law_run -/
structure Run (K : PySem.W.Frag) (p q : Addr) (H0 : Hp) (L0 : List Addr) (b : Nat) (h : HS) (H : Hp) (F : Foot) (G : SFoot) : Prop where
  ha : HAt (hC K) H p F h
  sa : SAt H q G h.abs
  ap : Apart (fp p F) (sfp q G)
  iv : HInv h b
  fr : Fr L0 H0 H
  nw : NewL H0 L0 (fp p F ++ sfp q G)
  cb : h.count ≤ 13 * (b : Int)
theorem Run.ex {K : PySem.W.Frag} {p q : Addr} {H0 H H' : Hp} {L0 : List Addr} {b : Nat} {h : HS} {F : Foot} {G : SFoot} (r : Run K p q H0 L0 b h H F G) (e : Ex H H') : Run K p q H0 L0 b h H' F G := ⟨r.ha.mono e, r.sa.mono e, r.ap, r.iv, r.fr.trans_ex e, r.nw, r.cb⟩
theorem Fr.left {H H' : Hp} {L M : List Addr} (r : Fr L H H') : Fr (L ++ M) H H' := fun b o e n => r b o e fun q => n (List.mem_append_left _ q)
theorem Fr.right {H H' : Hp} {L M : List Addr} (r : Fr M H H') : Fr (L ++ M) H H' := fun b o e n => r b o e fun q => n (List.mem_append_right _ q)
/-- a house that comes of a house by deeds -/
inductive Via (h : HS) : HS → Prop where
  | refl : Via h h
  | step {h1 h2 : HS} {b : Nat} {dd : Deed} {d : D} : Via h h1 → HInv h1 b → b < 64 → okDeed dd = true → okAt h1 dd → h1.toldO dd = .ok d h2 → Via h h2
theorem Via.inv {h h' : HS} (v : Via h h') {I : HS → Prop} (h0 : I h) (st : ∀ (h1 h2 : HS) (b : Nat) (dd : Deed) (d : D), HInv h1 b → b < 64 → okDeed dd = true → okAt h1 dd → h1.toldO dd = .ok d h2 → I h1 → I h2) : I h' := by
  induction v with
  | refl => exact h0
  | step _ i hb ok oa e ih => exact st _ _ _ _ _ i hb ok oa e ih
def sp_law_run (K : PySem.W.Frag) : Sp := fun vs H Q _ => ∃ (p q ca : Addr) (u : V) (F : Foot) (G : SFoot) (h : HS) (b : Nat) (ns : List Int) (ws : List Wd), vs = [.ref p, .ref q, .ref ca, u] ∧ Is H (.tup (ws.map fun w : Wd => .str w.s)) u ∧ H ca = some (.lst (ns.map V.int)) ∧ ca ∉ fp p F ++ sfp q G ∧
  Run K p q H (fp p F ++ sfp q G) b h H F G ∧ ws ≠ [] ∧ (∀ w ∈ ws, okW w = true) ∧ bnd b ns.length < 64 ∧
  ∀ h' H' F' G', Run K p q H (fp p F ++ sfp q G) (bnd b ns.length) h' H' F' G' → Via h h' → Q (.bl true) H'
theorem strs_pure (ws : List Wd) : D.pureL (ws.map fun w => .str w.s) = true := by
  induction ws with
  | nil => rfl
  | cons w r ih => exact (by rw [List.map_cons]; show (_ && _) = true; rw [ih]; rfl)
/-- one turn: the deed is done by both, and they are as each other -/
theorem turn {K : PySem.W.Frag} {p q : Addr} {H0 H : Hp} {L0 : List Addr} {b : Nat} {h : HS} {F : Foot} {G : SFoot} {dd : Deed} (r : Run K p q H0 L0 b h H F G) (hb : nb b < 64) (ok : okDeed dd = true) (oa : okAt h dd) {u : V} (hu : Is H dd.d u) {E : XK} {Q : Bool → Hp → Prop}
    (k : ∀ h' H' F' G', Run K p q H0 L0 (nb b) h' H' F' G' → (∀ a vs, H a = some (.tup vs) → H' a = some (.tup vs)) → Fr (fp p F ++ sfp q G) H H' → (∃ d, h.toldO dd = .ok d h') → Q false H') {σ : L2.St} (s0 : σ[0]? = some (some (.ref p))) (s1 : σ[1]? = some (some (.ref q))) (s5 : σ[5]? = some (some u)) :
    tOr (tNot (tB (tCall (sp_law_same K) [] E (tCons (tCall (sp_law_told K) [] E (tCons (tVar 0) (tCons (tVar 5) tNil))) (tCons (tCall (sp_law_do K) [] E (tCons (tVar 1) (tCons (tVar 5) tNil))) tNil))))) (tNot (tB (tCall (sp_law_is_as K) [] E (tCons (tVar 0) (tCons (tVar 1) tNil))))) σ H Q := by
  have hb' : b < 64 := Nat.lt_of_le_of_lt (Nat.le_of_succ_le (nb_ge b)) hb
  obtain ⟨d, h', ht, hd, iv', dp, pd⟩ := step_all r.iv hb' ok oa
  have rl : h.rows.length < 64 := Nat.lt_of_le_of_lt r.iv.rl hb'
  have pL : D.pureL [dd.d] = true := by
    show (dd.d.pure && true) = true
    rw [dd.pure]
    rfl
  refine ⟨_, s0, _, s5, p, F, h, [dd.d], h.toldO dd, .cons rfl (.cons hu rfl), pL, r.ha, ⟨dd, rfl, ok, ⟨oa, b, r.iv, hb'⟩, rfl⟩, fun d1 h1 e1 v1 H1 F1 y1 fr1 fs1 hv1 => ?_, fun x hx => by rw [ht] at hx; cases hx⟩
  rw [ht] at e1
  cases e1
  have tp1 : ∀ a vs, H a = some (.tup vs) → H1 a = some (.tup vs) := fun a vs e => fr1 a _ e (r.ha.not_tup e)
  have ap0 : Apart (sfp q G) (fp p F) := fun c hc hm => r.ap c hm hc
  have sa1 := r.sa.frame fr1 ap0 tp1
  have ap1 : Apart (fp p F1) (sfp q G) := fun c hc hm => by
    rcases fs1 c hc with w | w
    · exact r.ap c w hm
    · exact r.sa.sfp_some hm w
  refine ⟨_, s1, _, s5, q, G, h.abs, [dd.d], d, h'.abs, .cons rfl (.cons (hu.tups tp1 dd.pure) rfl), pL, sa1, ⟨h, b, dd, rfl, rfl, ok, oa, r.iv, hb', hd.symm⟩, fun v2 H2 G2 y2 fr2 fs2 hv2 => ?_⟩
  have tp2 : ∀ a vs, H1 a = some (.tup vs) → H2 a = some (.tup vs) := fun a vs e => fr2 a _ e (sa1.not_tup e)
  have ha2 := y1.frame fr2 ap1 tp2
  have ap2 : Apart (fp p F1) (sfp q G2) := fun c hc hm => by
    rcases fs2 c hm with w | w
    · exact ap1 c hc w
    · exact y1.fp_some hc w
  have hv1' : Is H2 d v1 := hv1.tups tp2 pd
  have frs : Fr (fp p F ++ sfp q G) H H2 := fun c o e n => fr2 c o (fr1 c o e fun m => n (List.mem_append_left _ m)) fun m => n (List.mem_append_right _ m)
  have nws : NewL H (fp p F ++ sfp q G) (fp p F1 ++ sfp q G2) := fun c hc => by
    rcases List.mem_append.mp hc with m | m
    · rcases fs1 c m with w | w
      · exact .inl (List.mem_append_left _ w)
      · exact .inr w
    · rcases fs2 c m with w | w
      · exact .inl (List.mem_append_right _ w)
      · by_cases hm : c ∈ fp p F
        · exact .inl (List.mem_append_left _ hm)
        · refine .inr ?_
          cases e : H c with
          | none => rfl
          | some o =>
            rw [fr1 c o e hm] at w
            cases w
  refine ⟨[d, d], .bl true, .cons hv1' (.cons hv2 rfl), ⟨d, rfl, dp, rfl⟩, fun v3 H3 e3 hv3 => ⟨true, hv3, ?_⟩⟩
  refine iteF ⟨_, s0, _, s1, [.obj p, .obj q], .bl true, .cons rfl (.cons rfl rfl), ⟨p, F1, q, G2, h', rfl, ha2.mono e3, y2.mono e3, iv'.wf hb, rfl⟩, fun v4 H4 e4 hv4 => ⟨true, hv4, ?_⟩⟩
  have e34 := e3.trans e4
  have cb' : h'.count ≤ 13 * ((nb b : Nat) : Int) := by
    have h1 := told_count r.iv ok oa ht
    have h2 := r.cb
    have h3 := nb_ge b
    omega
  exact k h' H4 F1 G2 ⟨ha2.mono e34, y2.mono e34, ap2, iv', (Fr.transL r.fr r.nw frs).trans_ex e34, r.nw.trans r.fr nws, cb'⟩ (fun a vs e => e34 _ _ (tp2 a vs (tp1 a vs e))) (frs.trans_ex e34) ⟨d, ht⟩
theorem ok_law_run {P : Program} {w : World} {K : PySem.W.Frag} {mg : Str → Option Value} {base : Heap} (S : Says K mg) : Fk P w K mg base 10 (He.fAd K ("_law_run", none)) ["house", "state", "cells", "words"] (sp_law_run K) := by
  have G_law_is_as := ok_law_is_as (P := P) (w := w) (base := base) S
  have G_law_do := ok_law_do (P := P) (w := w) (base := base) S
  have G_law_told := ok_law_told (P := P) (w := w) (base := base) S
  have G_law_same := ok_law_same (P := P) (w := w) (base := base) S
  have G_law_deed := ok_law_deed (P := P) (w := w) (base := base) S
  refine mk_b S.df_law_run sc_law_run (fun vs H Q E h => ?_) fun cdv A outer s H vs Q E bd h => ?_
  · obtain ⟨p, q, ca, u, F, G, h, b, ns, ws, rfl, _⟩ := h
    rfl
  · obtain ⟨p, q, ca, u, F, G, h, b, ns, ws, rfl, huw, hca, nca, r0, hws, okw, hbn, k⟩ := h
    obtain ⟨hr, tk, px, hu, hu65⟩ := bd
    refine ⟨_, (pss_cons (ps_for (passes_of rfl) rfl (pi_list (pv 2)) (pg_name (i := 4) sc_law_run.nd rfl (Or.inl rfl)) (pss_cons (ps_set (i := 5) sc_law_run.nd rfl (Or.inl rfl) (pe_cf G_law_deed (hr.mono (by decide)) (by rfl) S.glo__law_deed px (pa_cons (pv 4) (pa_cons (pv 1) (pa_cons (pv 3) pa_nil)))))
      (pss_one (ps_if (PW.pt (pw_or (pt_not (pt_val (pe_cf G_law_same (hr.mono (by decide)) (by rfl) S.glo__law_same px (pa_cons (pe_cf G_law_told (hr.mono (by decide)) (by rfl) S.glo__law_told px (pa_cons (pv 0) (pa_cons (pv 5) pa_nil))) (pa_cons (pe_cf G_law_do (hr.mono (by decide)) (by rfl) S.glo__law_do px (pa_cons (pv 1) (pa_cons (pv 5) pa_nil))) pa_nil))))) (pw_or1 (pt_not (pt_val (pe_cf G_law_is_as (hr.mono (by decide)) (by rfl) S.glo__law_is_as px (pa_cons (pv 0) (pa_cons (pv 1) pa_nil)))))))) (pss_one (ps_ret (pe_bl))) pss_nil))))
      (pss_one (ps_ret (pe_bl)))), ?_⟩
    refine ⟨_, rfl, ca, rfl, ⟨_, SqL.of hca⟩, ?_⟩
    refine for_list (K := K) (xs := ns.map V.int) (fun i σ' H' => ∃ h' F' G', Run K p q H (fp p F ++ sfp q G) (bnd b i) h' H' F' G' ∧ Via h h' ∧ EnvOk H' σ' [some (.obj p), some (.obj q), some (.obj ca), some (.tup (ws.map fun w => .str w.s)), none, none]) ?_ ?_ ?_ ?_
    · exact ⟨h, F, G, r0, .refl, rfl, rfl, rfl, huw, trivial⟩
    · rintro i σ' H' _ ⟨h', F', G', r, _⟩
      exact SqL.of (r.fr ca _ hca nca)
    · rintro i x σ' H' hi ⟨h', F', G', r, via, n⟩
      rw [List.getElem?_map] at hi
      obtain ⟨c, hc, rfl⟩ : ∃ c, ns[i]? = some c ∧ V.int c = x := by
        cases e3 : ns[i]? with
        | none => rw [e3] at hi; cases hi
        | some c => rw [e3] at hi; exact ⟨c, rfl, Option.some.inj hi⟩
      have hil : i < ns.length := (List.getElem?_eq_some_iff.mp hc).1
      have hb1 : bnd b (i + 1) < 64 := Nat.lt_of_le_of_lt (bnd_mono b hil) hbn
      have hb0 : bnd b i < 64 := Nat.lt_of_le_of_lt (bnd_le b i) hb1
      have n1 : EnvOk H' (σ'.set 4 (some (.int c))) [some (.obj p), some (.obj q), some (.obj ca), some (.tup (ws.map fun w => .str w.s)), some (.int c), none] := n.set (d := .int c) (v := .int c) rfl 4
      have hal : h'.abs.rows.length < 64 := by rw [abs_len]; exact Nat.lt_of_le_of_lt r.iv.rl hb0
      have hcl : h'.abs.casts.length < 100000 := Nat.lt_of_le_of_lt r.iv.clen (by omega)
      refine s_deed (K := K) (X := E) (c := c) (ws := ws) r.sa hal r.iv.c0 hws hcl (ev_var (ds := [some (.obj p), some (.obj q), some (.obj ca), some (.tup (ws.map fun w => .str w.s)), some (.int c), none]) (i := 4) rfl) (ev_var (i := 1) rfl) (ev_var (i := 3) rfl) _ H' (Same.refl _) n1 _ fun v H2 e2 hv => ?_
      have n2 := (n1.mono e2).set hv 5
      have r2 := r.ex e2
      have hne : 0 < (ws.length : Int) := by
        cases ws with
        | nil => exact absurd rfl hws
        | cons a t => simp only [List.length_cons]; omega
      have b0 := mix_ge c 9923 ws.length hne
      have b1 := mix_lt c 9923 ws.length hne
      have hw : okW (ws.getD (mixV c 9923 ws.length).toNat .make) = true := by
        rw [List.getD_eq_getElem?_getD, List.getElem?_eq_getElem (by omega)]
        exact okw _ (List.getElem_mem _)
      obtain ⟨u0, g0, i0⟩ := n2.get (i := 0) (d := .obj p) rfl
      obtain ⟨u1, g1, i1⟩ := n2.get (i := 1) (d := .obj q) rfl
      obtain ⟨u5, g5, i5⟩ := n2.get (i := 5) (d := (h'.abs.deedV c ws).d) rfl
      cases (show _ = _ from i0)
      cases (show _ = _ from i1)
      refine turn (dd := h'.abs.deedV c ws) r2 hb1 (okW_deed h'.abs c hw) (deed_okAt h' c _) i5 (fun h3 H3 F3 G3 r3 tp fr3 ht => iteF ?_) g0 g1 g5
      obtain ⟨d3, ht⟩ := ht
      refine ⟨h3, F3, G3, r3, .step via r.iv hb0 (okW_deed h'.abs c hw) (deed_okAt h' c _) ht, ?_⟩
      exact (((n2.forget 4).forget 5).tups tp (by show (true && (true && (true && (D.pureL _ && true)))) = true; rw [strs_pure]; rfl))
    · rintro σ' H' ⟨h', F', G', r, via, n⟩
      rw [List.length_map] at r
      exact k h' H' F' G' r via
end Cs
set_option Elab.async false
set_option linter.all false
set_option maxRecDepth 100000
set_option maxHeartbeats 4000000
namespace Cs
open PySem PySem.Spec PyProof.Rows L2
/-! ### a new house and its state -/
section
variable {K : PySem.W.Frag} {ds : List (Option D)} {H : Hp} {t1 t2 t3 t4 : TE} {tz : TS} {E : Ends} {X1 X2 : XK} {keep room : Int} {i j : Nat}
/-- house, state = House(keep, room), _law_begin(keep, room) -/
theorem go_pair (h1 : EvD t1 ds H (.int keep)) (h2 : EvD t2 ds H (.int room)) (h3 : EvD t3 ds H (.int keep)) (h4 : EvD t4 ds H (.int room))
    (k : ∀ p q F G H', (∀ b ∈ fp p F ++ sfp q G, H b = none) → Ex H H' → Run K p q H' (fp p F ++ sfp q G) 0 (HS.empty keep room) H' F G → Go tz ((ds.set i (some (.obj p))).set j (some (.obj q))) H' E) :
    Go (tSeq (tPar i j (tCons (tMake (hC K) (sp_House___init__ K) [] X1 (tCons t1 (tCons t2 tNil))) (tCons (tCall (sp_law_begin K) [] X2 (tCons t3 (tCons t4 tNil))) tNil))) tz) ds H E := fun σ H0 e n =>
  h1 σ H0 e n _ fun v1 H1 e1 hv1 => h2 σ H1 (e.trans e1) (n.mono e1) _ fun v2 H2 e2 hv2 p dx hp hdx npd => by
    cases (show _ = _ from hv1)
    cases (show _ = _ from hv2)
    refine ⟨p, dx, keep, room, rfl, upd_same, fun H3 F x fr fs => ⟨rfl, ?_⟩⟩
    have ex2 : Ex H2 H3 := fun b o hb => fr b o (by rw [upd_ne (ne_of_none hb hp), upd_ne (ne_of_none hb hdx)]; exact hb) (ne_of_none hb hp)
    have fs2 : ∀ b ∈ fp p F, H2 b = none := fun b hb => by
      rcases fs b hb with w | w
      · rw [w]; exact hp
      · by_cases c1 : b = p
        · rw [c1]; exact hp
        · rw [upd_ne c1] at w
          by_cases c2 : b = dx
          · rw [c2]; exact hdx
          · rw [upd_ne c2] at w
            exact w
    have e12 := e1.trans e2
    refine h3 σ H3 ((e.trans e12).trans ex2) ((n.mono e12).mono ex2) _ fun v3 H4 e4 hv3 => h4 σ H4 (((e.trans e12).trans ex2).trans e4) (((n.mono e12).mono ex2).mono e4) _ fun v4 H5 e5 hv4 => ?_
    cases (show _ = _ from hv3)
    cases (show _ = _ from hv4)
    refine ⟨keep, room, rfl, fun q G H6 y ex6 fs6 => ⟨_, _, rfl, ?_⟩⟩
    have e35 := e4.trans e5
    have e26 : Ex H2 H6 := (ex2.trans e35).trans ex6
    have free6 : ∀ b ∈ fp p F ++ sfp q G, H2 b = none := fun b hb => by
      rcases List.mem_append.mp hb with m | m
      · exact fs2 b m
      · exact (ex2.trans e35).free (fs6 b m)
    have e02 : Ex H H2 := e.trans e12
    refine k p q F G H6 (fun b hb => e02.free (free6 b hb)) (e02.trans e26) ⟨x.mono (e35.trans ex6), y, fun b hb hm => ?_, inv_empty keep room, fun _ _ z _ => z, NewL.refl, by show (0 : Int) ≤ _; omega⟩ _ H6 (Same.refl _) (((n.mono (e12.trans e26)).set (d := .obj p) (v := .ref p) rfl i).set (d := .obj q) (v := .ref q) rfl j)
    have h5 := fs6 b hm
    exact (x.mono e35).fp_some hb h5
end
/-- if not _law_run(..): return False -/
theorem go_runV {K : PySem.W.Frag} {ds : List (Option D)} {H H0 : Hp} {tc tw t1 t2 t3 : TE} {ta : TE} {tz tu : TS} {E : Ends} {X1 X2 : XK} {p q a : Addr} {F : Foot} {G : SFoot} {L0 : List Addr} {b : Nat} {h : HS} {ns : List Int} {f m : Int} {ws : List Wd} (r : Run K p q H0 L0 b h H F G)
    (h1 : EvD t1 ds H (.obj p)) (h2 : EvD t2 ds H (.obj q)) (hS : SqL K H a (ns.map V.int)) (ha : EvD ta ds H (.obj a)) (hf : EvD tc ds H (.int f)) (hm : EvD t3 ds H (.int m)) (f0 : 0 ≤ f) (m0 : 0 ≤ m) (m1 : m ≤ 100000) (hw : EvD tw ds H (.tup (ws.map fun w => .str w.s))) (hws : ws ≠ []) (okw : ∀ w ∈ ws, okW w = true) (hb : bnd b m.toNat < 64) (pe : pureE ds = true)
    (k : ∀ h' H' F' G', Run K p q H0 L0 (bnd b m.toNat) h' H' F' G' → Fr (fp p F ++ sfp q G) H H' → Via h h' → Go tz ds H' E) :
    Go (tSeq (tIfS (tNot (tB (tCall (sp_law_run K) [] X1 (tCons t1 (tCons t2 (tCons (tCall (sp_law_cellsN K) [] X2 (tCons ta (tCons tc (tCons t3 tNil)))) (tCons tw tNil))))))) tu tNext) tz) ds H E := fun σ H1 e n =>
  h1 σ H1 e n _ fun v1 H2 e2 hv1 => h2 σ H2 (e.trans e2) (n.mono e2) _ fun v2 H3 e3 hv2 => by
    have e13 := e2.trans e3
    have n3 := n.mono e13
    refine ha σ H3 (e.trans e13) n3 _ fun v4 H4 e4 hv4 => hf σ H4 ((e.trans e13).trans e4) (n3.mono e4) _ fun v5 H5 e5 hv5 => hm σ H5 (((e.trans e13).trans e4).trans e5) ((n3.mono e4).mono e5) _ fun v6 H6 e6 hv6 => ?_
    cases (show _ = _ from hv1)
    cases (show _ = _ from hv2)
    cases (show _ = _ from hv4)
    cases (show _ = _ from hv5)
    cases (show _ = _ from hv6)
    have e16 : Ex H1 H6 := ((e13.trans e4).trans e5).trans e6
    refine ⟨a, ns, f, m, rfl, (e.trans e16).seq hS, f0, m0, m1, fun l H7 hl e7 hl7 => ?_⟩
    refine hw σ H7 ((e.trans e16).trans e7) ((n.mono e16).mono e7) _ fun v8 H8 e8 hv8 => ?_
    have e08 : Ex H H8 := ((e.trans e16).trans e7).trans e8
    have r8 := r.ex e08
    have len : (cellsV ns f m).length = m.toNat := by simp [cellsV]
    refine ⟨p, q, l, v8, F, G, h, b, cellsV ns f m, ws, rfl, hv8, e8 _ _ hl7, fun hm' => ?_, ⟨r8.ha, r8.sa, r8.ap, r8.iv, fun _ _ z _ => z, NewL.refl, r8.cb⟩, hws, okw, by rw [len]; exact hb, fun h' H' F' G' r' via => ⟨true, rfl, iteF ?_⟩⟩
    · have h0 : H l = none := (e.trans e16).free hl
      rcases List.mem_append.mp hm' with z | z
      · exact r.ha.fp_some z h0
      · exact r.sa.sfp_some z h0
    · rw [len] at r'
      have fr : Fr (fp p F ++ sfp q G) H H' := Fr.ex_trans e08 r'.fr
      have nw : NewL H (fp p F ++ sfp q G) (fp p F' ++ sfp q G') := fun c hc => by
        rcases r'.nw c hc with z | z
        · exact .inl z
        · exact .inr (e08.free z)
      refine k h' H' F' G' ⟨r'.ha, r'.sa, r'.ap, r'.iv, Fr.transL r.fr r.nw fr, r.nw.trans r.fr nw, r'.cb⟩ fr via σ H' (Same.refl _) ?_
      refine (n.mono (((e16.trans e7).trans e8))).tups (fun c vs hc => r'.fr c _ hc fun hm' => ?_) pe
      rcases List.mem_append.mp hm' with z | z
      · exact r8.ha.not_tup hc z
      · exact r8.sa.not_tup hc z
theorem go_run {K : PySem.W.Frag} {ds : List (Option D)} {H H0 : Hp} {tc tw t1 t2 t3 : TE} {ta : TE} {tz tu : TS} {E : Ends} {X1 X2 : XK} {p q a : Addr} {F : Foot} {G : SFoot} {L0 : List Addr} {b : Nat} {h : HS} {ns : List Int} {f m : Int} {ws : List Wd} (r : Run K p q H0 L0 b h H F G)
    (h1 : EvD t1 ds H (.obj p)) (h2 : EvD t2 ds H (.obj q)) (hS : SqL K H a (ns.map V.int)) (ha : EvD ta ds H (.obj a)) (hf : EvD tc ds H (.int f)) (hm : EvD t3 ds H (.int m)) (f0 : 0 ≤ f) (m0 : 0 ≤ m) (m1 : m ≤ 100000) (hw : EvD tw ds H (.tup (ws.map fun w => .str w.s))) (hws : ws ≠ []) (okw : ∀ w ∈ ws, okW w = true) (hb : bnd b m.toNat < 64) (pe : pureE ds = true)
    (k : ∀ h' H' F' G', Run K p q H0 L0 (bnd b m.toNat) h' H' F' G' → Fr (fp p F ++ sfp q G) H H' → Go tz ds H' E) :
    Go (tSeq (tIfS (tNot (tB (tCall (sp_law_run K) [] X1 (tCons t1 (tCons t2 (tCons (tCall (sp_law_cellsN K) [] X2 (tCons ta (tCons tc (tCons t3 tNil)))) (tCons tw tNil))))))) tu tNext) tz) ds H E := go_runV r h1 h2 hS ha hf hm f0 m0 m1 hw hws okw hb pe fun h' H' F' G' r' fr _ => k h' H' F' G' r' fr
def sp_law (K : PySem.W.Frag) : Sp := fun vs H Q _ => ∃ (a : Addr) (ns : List Int), vs = [.ref a] ∧ SqL K H a (ns.map V.int) ∧ ∀ H', Q (.bl true) H'
/-- for k in range(n): .. -/
theorem go_forR {K : PySem.W.Frag} {ds : List (Option D)} {H : Hp} {tu tz : TS} {E : Ends} {j : Nat} {m : Int} {a : Addr} {ns : List Int} {tr : TA} (hS : SqL K H a (ns.map V.int)) (ha : EvA tr ds H [.int m]) (m0 : 0 ≤ m) (m1 : m ≤ 100000)
    (hb : ∀ (i : Nat) H1 (N : L2.St → Hp → Prop), (i : Int) < m → SqL K H1 a (ns.map V.int) → (∀ σ H2, SqL K H2 a (ns.map V.int) → EnvOk H2 σ ds → N σ H2) → Go tu (ds.set j (some (.int (i : Int)))) H1 { E with nx := N, ct := N, bk := tz E })
    (k : ∀ H1, SqL K H1 a (ns.map V.int) → Go tz ds H1 E) : Go (tSeq (tFor (iRng1 tr) (gName j) tu) tz) ds H E := fun σ H0 e n =>
  ha σ H0 e n _ fun vs H1 e1 hv => by
    obtain ⟨v, r, rfl, hv, hr⟩ := hv
    cases (show _ = _ from hr)
    cases (show _ = _ from hv)
    refine ⟨m, rfl, by omega, by omega, for_range (lo := 0) (n := m.toNat) (fun i σ' H' => SqL K H' a (ns.map V.int) ∧ EnvOk H' σ' ds) ⟨(e.trans e1).seq hS, n.mono e1⟩ (fun i σ' H' hi q => ?_) fun σ' H' q => k H' q.1 σ' H' (Same.refl _) q.2⟩
    rw [Int.zero_add]
    exact hb i H' _ (by omega) q.1 (fun σ2 H2 s2 n2 => ⟨s2, n2⟩) _ H' (Same.refl _) (q.2.set (d := .int (i : Int)) (v := .int (i : Int)) rfl j)
/-- the law's own def: its promise, and how it is called -/
theorem mk_law {P : Program} {w : World} {K : PySem.W.Frag} {mg : Str → Option Value} {base : Heap} {k : Nat} {f : Addr} {N : List Str} {st : Stmt} {sp : Sp} {fd : FuncData} (F : FunD K "law" "law" (defArgs st) (defBody st) (defScope st) [] [] f fd) (S : FnScope N ["script"] (defScope st)) (len : ∀ vs H Q E, sp vs H Q E → vs.length = 1)
    (hbody : ∀ (cdv : Value) (A : Around) (outer : List Env) (s : Shared) (H : Hp) (vs : List V) (Q : VK) (E : XK), Bd P w K mg base N "law" (defScope st) f cdv A outer s H E k → sp vs H Q E →
      ∃ t, PSs (cxOf (L2.CX P w) P w K mg base N "law" (defScope st) f cdv A outer s H E) (defBody st) t ∧ t { nx := fun _ H' => Q .non H', rt := Q } (start N vs) H) : FnOk P w K mg base (L2.CX P w) (k + 1) f fd ["script"] sp :=
  F.ok S len fun cdv A outer s H vs Q E hr h => hbody cdv A outer s H vs Q E (bd_of hr) h
/-- a script's rounds: what is read of the script, houses of their own -/
theorem fr_seq {K : PySem.W.Frag} {H H1 H2 : Hp} {a : Addr} {xs : List V} {L : List Addr} (hS : SqL K H a xs) (hn : ∀ b ∈ L, H b = none) (e : Ex H H1) (r : Fr L H1 H2) : SqL K H2 a xs :=
  SqL.frame hS (Fr.ex_trans e r) (hn a)
end Cs
set_option Elab.async false
set_option linter.all false
set_option maxRecDepth 100000
set_option maxHeartbeats 4000000
namespace Cs
open PySem PySem.Spec PyProof.Rows L2
/-- o.m(..) in a try -/
def tMeS (C : Addr) (m : Str) (sp : Sp) (E : L2.St → XK) (ta : TE) (t : TA) : TE := fun σ H Q => ta σ H fun x H1 => ∃ a dx fs, x = .ref a ∧ H1 a = some (.ins C dx fs) ∧ fs.lookup m = none ∧ t σ H1 fun vs H2 => sp (x :: vs) H2 Q (E σ)
theorem pe_mtS {X : Cx} {k : Nat} {f C : Addr} {ps : List Str} {sp : Sp} {W : WX} {e o : Expr} {es : List Expr} {m : Str} {apos pos : Pos} {t : TA} {ta : TE} {pl : Sem Bool} (he : PE X o ta) (c : Cls X.K C) (hm : Meth X.K C m f) (F : Fk X.prog X.w X.K X.mg X.base k f ps sp) (hr : Room k X.A) (tk : Takes X W) (ha : PA X (e :: es) t)
    (hst : starEach (e :: es) X.env = (false, eval e X.env) :: starEach es X.env := by rfl) (hpl : (backTo pos (starEach es X.env)).any (·.1) = false := by rfl)
    (ht : eval (.Call (.Attribute o m apos) (e :: es) [] pos) X.env = (do
      let ov ← eval o X.env
      standAt apos.atName
      let (f, first) ← holding [ov] (getMethod ov m pl)
      callWith pos f first (backTo pos (starEach (e :: es) X.env)) (backToKw pos (keywordEach [] X.env))) := by rfl) :
    PE X (.Call (.Attribute o m apos) (e :: es) [] pos) (tMeS C m sp (WE W) ta t) := by
  obtain ⟨fd, F, b, kp⟩ := F
  refine ⟨fun pins s σ H Q I h => ?_⟩
  refine PySem.W.methodCall_KW (pl := pl) (thn (he.run pins s σ H _ I h) fun u s1 ⟨x, H1, I1, rx, a, dx, fs, ex, ea, l, q⟩ => ?_) ht
  subst ex
  obtain rfl : u = Value.ref a := rx
  refine getmeth_ok I1 ea c hm l ?_
  refine PySem.W.callWith_K (first := [.ref a]) (h₀ := X.base) I.ok.mod.kin hm.kp (thn (ha.run pos pins s1 σ H1 _ I1 q) fun us s2 ⟨vs, H2, I2, r, q2⟩ => ⟨I2.kIn, ?_⟩) hst hpl
  exact run_fnS (us := .ref a :: us) (vs := .ref a :: vs) F hr b (passAt tk σ) I2 (.cons rfl r) q2
end Cs
set_option Elab.async false
set_option linter.all false
set_option maxRecDepth 100000
set_option maxHeartbeats 4000000
namespace Cs
open PySem PySem.Spec PyProof.Rows L2
/-! ### defs called while an exception is handled (the exception itself tracked) -/
/-- a def at f keeps the promise sp, whatever is handled -/
structure FnW (P : Program) (w : World) (K : PySem.W.Frag) (mg : Str → Option Value) (base : Heap) (k : Nat) (f : Addr) (fd : FuncData) (ps : List Str) (sp : Sp) : Prop where
  len : ∀ vs H Q E, sp vs H Q E → vs.length = ps.length
  run : ∀ (A : Around) (outer : List Env) (s : Shared) (H : Hp) (args : Args) (us : List Value) (vs : List V) (Q : VK) (E : XK), L2H.RoomH k A → Env0 P w K mg base A outer s H → BindsTo s fd args (ps.zip us) → Vals vs us → sp vs H Q E →
    codeAny (model P w) A (.call (.ref f) args) (CR (L2.CX P w) outer P w H s Q E) s
def FkW (P : Program) (w : World) (K : PySem.W.Frag) (mg : Str → Option Value) (base : Heap) (k : Nat) (f : Addr) (ps : List Str) (sp : Sp) : Prop :=
  ∃ fd : FuncData, FnW P w K mg base k f fd ps sp ∧ Binds K fd ps [] ∧ PySem.W.keepIn K (.ref f) = true
/-- the context of such a body -/
abbrev cxW (P : Program) (w : World) (K : PySem.W.Frag) (mg : Str → Option Value) (base : Heap) (N : List Str) (qual : Str) (scope : Scope) (f : Addr) (cd : Value) (A : Around) (outer : List Env) (s : Shared) (H : Hp) (E : XK) : Cx :=
  { cxOf (L2.CX P w) P w K mg base N qual scope f cd A outer s H E with calm := false }
section
variable {P : Program} {w : World} {K : PySem.W.Frag} {mg : Str → Option Value} {base : Heap} {k : Nat} {f : Addr} {ps N : List Str} {sp : Sp} {x qual : Str} {st : Stmt}
theorem inv_cool {X : Cx} {pins : List (Addr × Obj)} {σ : L2.St} {H : Hp} {s : Shared} {A : Around} (xe : Value → Shared → Prop) (I : Inv X pins σ H s) (hA : A.frames = X.A.frames) : Inv { X with A := A, calm := false, xe := xe } pins σ H s :=
  ⟨⟨I.ok.mod, I.ok.kind, I.ok.glob, I.ok.blt, I.ok.above, I.ok.inj, I.ok.has, I.ok.cab, (fun z => absurd (show false = true from z) Bool.false_ne_true), hA.trans I.ok.frames, I.ok.stk, I.ok.exf, I.ok.bs, I.ok.bsz, I.ok.noex, I.ok.exfs, I.ok.funs, I.ok.frf⟩, I.os, I.bare, I.base, I.loc, I.cell, I.free, I.freeC, I.pin, I.hok, I.len⟩
theorem mk_fkW (F : Df K x qual st f ps) (S : FnScope N ps (defScope st)) (len : ∀ vs H Q E, sp vs H Q E → vs.length = ps.length)
    (hbody : ∀ (cdv : Value) (A : Around) (outer : List Env) (s : Shared) (H : Hp) (vs : List V) (Q : VK) (E : XK), L2H.RoomH k (A.deeper (envOfC qual (defScope st) s.heap.objs.size f cdv)) → sp vs H Q E →
      ∃ t, PSs (cxW P w K mg base N qual (defScope st) f cdv A outer s H E) (defBody st) t ∧ t { nx := fun _ H' => Q .non H', rt := Q } (start N vs) H) : FkW P w K mg base (k + 1) f ps sp := by
  obtain ⟨fd, F, b⟩ := F
  refine ⟨fd, ?_, b, F.kp⟩
  obtain ⟨oc, od, dV, kV, doc, pm, an, cdv, ct, osl, rfl, lk, hcd, _, _⟩ := F.ex
  refine ⟨len, fun A outer s H args us vs Q E hr e0 hb r hsp => ?_⟩
  have hl := len _ _ _ _ hsp
  have KX : K.In s.heap := e0.mod.kin.keeps fun b o e => (e0.bs b o e).1
  have lim : s.heap.NoLimit := e0.mod.nolimit.keeps fun b o e => (e0.bs b o e).1
  have hkind : ∀ y ∈ ps.zip us, (defScope st).names.lookup y.1 = some .local ∨ ((defScope st).names.lookup y.1 = some .cell ∧ ((cellsFrom (s.heap.objs.size + 1) (defScope st).names []).lookup y.1).isSome = true) := by
    intro y hy
    rcases S.par y.1 (List.of_mem_zip (a := y.1) (b := y.2) hy).1 with q | q
    · exact .inl q
    · exact .inr ⟨q, PySem.W.cellsFrom_some _ _ _ (.inl q)⟩
  refine codeAny_call_function hr.depth (KX _ _ lk) rfl S.co S.gen rfl (PySem.W.codeRec_of KX hcd) (hb _ _ _ _ ?_)
  refine wpAny_newFunctionEnv_cells S.kind hkind fun env he s1 xx => ?_
  subst he
  refine ⟨lim.keeps xx.toInCall.keep, codeAny_func ?_⟩
  obtain ⟨t, ht, hq⟩ := hbody cdv A outer s H vs Q E (hr.deeper _) hsp
  have e1 : Env0 P w K mg base ({ A with handled := none }) outer s H := ⟨e0.frames, e0.mod, e0.bs, e0.bsz, e0.funs, e0.frf, e0.hok, e0.bare⟩
  have I0 : Inv (cxOf (L2.CX P w) P w K mg base N qual (defScope st) f cdv ({ A with handled := none }) outer s H E) [] (start N vs) H s1 := inv_start S rfl e1 hl r xx
  have I : Inv (cxW P w K mg base N qual (defScope st) f cdv A outer s H E) [] (start N vs) H s1 := by
    have J := inv_cool (X := cxOf (L2.CX P w) P w K mg base N qual (defScope st) f cdv ({ A with handled := none }) outer s H E) (A := A.deeper (envOfC qual (defScope st) s.heap.objs.size f cdv)) (cxW P w K mg base N qual (defScope st) f cdv A outer s H E).xe I0 rfl
    exact J
  refine wpAny_mono (ht.run [] s1 (start N vs) H _ I hq) (fun fl s' hs => ?_) fun e s' hs => hs
  cases fl with
  | ret u =>
    obtain ⟨v, σ', H', J, rv, q⟩ := hs
    exact ⟨v, H', J.os, J.bare, J.base, J.hok, rv, q⟩
  | next =>
    obtain ⟨σ', H', J, q⟩ := hs
    exact ⟨V.non, H', J.os, J.bare, J.base, J.hok, rfl, q⟩
  | brk =>
    obtain ⟨_, _, _, q⟩ := hs
    exact False.elim q
  | cont =>
    obtain ⟨_, _, _, q⟩ := hs
    exact False.elim q
/-- .. for a promise by data -/
theorem mk_gW {Pre : Hp → List D → D → Prop} (F : Df K x qual st f ps) (S : FnScope N ps (defScope st)) (hlen : ∀ H as d, Pre H as d → as.length = ps.length) (hN : ps.length ≤ N.length)
    (hbody : ∀ (cdv : Value) (A : Around) (outer : List Env) (s : Shared) (H H0 : Hp) (Q : VK) (E : XK) (as : List D) (d : D), Pre H as d → (∀ v H', Ex H H' → Is H' d v → Q v H') →
      ∃ t, PSs (cxW P w K mg base N qual (defScope st) f cdv A outer s H0 E) (defBody st) t ∧ Go t (as.map some ++ List.replicate (N.length - as.length) none) H { nx := fun _ H' => Q .non H', rt := Q }) : FkW P w K mg base (k + 1) f ps (rsp Pre) := by
  refine mk_fkW F S (fun vs H Q E h => ?_) fun cdv A outer s H vs Q E hr h => ?_
  · obtain ⟨as, d, hv, hp, _⟩ := h
    rw [hv.len, hlen H as d hp]
  · obtain ⟨as, d, hv, hp, kk⟩ := h
    obtain ⟨t, h1, h2⟩ := hbody cdv A outer s H H Q E as d hp kk
    exact ⟨t, h1, h2 _ H (Same.refl _) (start_env hv (by rw [hlen H as d hp]; exact hN))⟩
end
theorem roomM {k : Nat} {A : Around} {m : Option Value} (r : Room k A) : L2H.RoomH k (A.mark m) := ⟨r.dp, r.un⟩
/-- a call of such a def -/
theorem pe_cfW {X : Cx} {k : Nat} {f : Addr} {ps : List Str} {sp : Sp} {E : XK} {e : Expr} {es : List Expr} {x : Str} {p pos : Pos} {t : TA} (F : FkW X.prog X.w X.K X.mg X.base k f ps sp) (hr : L2H.RoomH k X.A) (hg : Gl X x) (hm : X.mg x = some (.ref f)) (hx : Passes (L2.CX X.prog X.w) X E)
    (ha : PA X (e :: es) t) (hdb : (x == ("__debug__" : Str)) = false := by decide) (he : starEach (e :: es) X.env = (false, eval e X.env) :: starEach es X.env := by rfl) (hpl : (backTo pos (starEach es X.env)).any (·.1) = false := by rfl) :
    PE X (.Call (.Name x p) (e :: es) [] pos) (tCall sp [] E t) := by
  obtain ⟨fd, F, b, kp⟩ := F
  refine ⟨fun pins s σ H Q I h => ?_⟩
  refine wpAny_Call_Name_kw (ld_glob I hg hm ?_ hdb)
  refine PySem.W.callWith_K (h₀ := X.base) I.ok.mod.kin kp (thn (ha.run pos pins s σ H _ I h) fun us s1 ⟨vs, H1, I1, r, q⟩ => ⟨I1.kIn, ?_⟩) he hpl
  have q : sp vs H1 Q E := by
    have q' : sp (vs ++ []) H1 Q E := q
    rw [List.append_nil] at q'
    exact q'
  have hl : us.length = ps.length := by rw [← r.length]; exact F.len _ _ _ _ q
  have bb := b s1 us I1.kIn (by rw [List.append_nil]; exact hl)
  rw [List.append_nil] at bb
  refine wpAny_call (codeAny_mono (F.run X.A X.stack s1 H1 ⟨us, []⟩ us vs Q E hr I1.env0 bb r q) fun r s' hq => ?_)
  cases r with
  | error e => exact hx pins σ H1 s1 e s' I1 hq
  | ok fl =>
    cases fl with
    | ret u => exact I1.after hq
    | next => exact False.elim hq
    | brk => exact False.elim hq
    | cont => exact False.elim hq
/-! ### try: body, except x as n: suite, the exception tracked in the suite -/
/-- what is wished of an exception that 'except x as n' takes (n in slot i) -/
def wHot (K : PySem.W.Frag) (c : Value) (i : Nat) (ts : TS) (D : Ends) : WX := fun cls d σ H => PySem.W.exmOne K cls c = some true ∧ d = none ∧ ∀ a, H a = none → ts { nx := fun σ' H' => D.nx (σ'.set i none) H', rt := D.rt, bk := fun σ' H' => D.bk (σ'.set i none) H', ct := fun σ' H' => D.ct (σ'.set i none) H' } (σ.set i (some (.ref a))) (upd H a (ExH cls a))
section
variable {X : Cx} {x n : Str} {c : Value} {i : Nat} {body suite : List Stmt} {b₀ : Stmt} {np pos pos' : Pos} {tb : WX → TS} {ts : TS}
theorem ps_try_hot (hs : X.stack = X.env :: X.outer) (hf : X.env.frame = some X.env.locals) (hex : X.ex = []) (hnc : X.env.cells = []) (hN : X.N.Nodup) (hi : X.N[i]? = some n) (hln : X.env.kindOf n = some .local) (hc : Names X x c)
    (hb : ∀ (W : WX) (pn : List (Addr × Obj)) (xe : Value → Shared → Prop), Takes (X.tr pn xe) W → PassesOwn (model X.prog X.w) X.A X.env xe → PSs (X.tr pn xe) body (tb W))
    (hsu : ∀ (a : Addr) (pn : List (Addr × Obj)), PSs (X.suite a pn) (b₀ :: suite) ts) :
    PS X (.Try body [.ExceptHandler (some (.Name x np)) (some n) (b₀ :: suite) pos'] [] [] pos) (fun D σ H => tb (wHot X.K c i ts D) D σ H) := by
  constructor
  intro pins s σ H D I h
  have ok := I.ok
  have hfr : X.A.frames = some (X.env :: X.outer) := ok.frames.trans (congrArg some hs)
  refine wpAny_Try_except ?_
  let hnd : List ExceptHandler := [.ExceptHandler (some (.Name x np)) (some n) (b₀ :: suite) pos']
  let xe : Value → Shared → Prop := fun e s1 => wpAny (model X.prog X.w) X.A (noteFrame e X.env) (fun _ s2 => wpAny (model X.prog X.w) X.A (setFlight e none) (fun _ s3 => wpAny (model X.prog X.w) X.A (handleBy e X.env hnd) (SP X pins D) X.xe s3) X.xe s2) X.xe s1
  have tk : Takes (X.tr (X.pn ++ pins) xe) (wHot X.K c i ts D) := by
    intro u s1 xx
    obtain ⟨a, B, sI, pins1, σ1, H1, cls, d, rfl, J0, nb, up, sky, na, os, ag, hm, hd0, hgo⟩ := xx
    subst hd0
    have J : Inv X pins σ1 H1 sI := J0.ofTry ok
    have sky' : Sky B (X.env :: X.outer) a (Zc cls none) X.env.locals s1.heap := hs ▸ sky
    show wpAny (model X.prog X.w) X.A (noteFrame (.ref a) X.env) _ _ _
    refine Sky.land Zc.steady hfr hf sky' fun h3 fl3 up3 => ?_
    have J3 : Inv X pins σ1 H1 { s1 with heap := h3 } := J.landed nb fl3.1 (up.trans up3) os ag
    obtain ⟨oe3, vs3, he3, hz3, hd3⟩ := fl3.there
    have nfr : a ∉ frs (X.env :: X.outer) := fun hm' => by
      obtain ⟨_, o', e', hnf⟩ := fl3.2.2.1.mem hm'
      rw [he3] at e'
      cases e'
      exact hnf _ hd3
    have nL : a ≠ X.env.locals := fun z => nfr (List.mem_filterMap.mpr ⟨X.env, List.mem_cons_self, by rw [hf, z]⟩)
    have nF : a ∉ X.fs := fun hm' => by
      obtain ⟨e1, he1, q1⟩ := List.mem_filterMap.mp hm'
      exact nfr (List.mem_filterMap.mpr ⟨e1, List.mem_cons_of_mem _ he1, q1⟩)
    have nI : sI.heap.get? a = none := by
      cases q : sI.heap.get? a with
      | none => rfl
      | some o =>
        have := nb a o q (by rw [hs]; exact nfr)
        rw [fl3.2.1] at this
        cases this
    have n0 : X.s_0.heap.get? a = none := by
      cases q : X.s_0.heap.get? a with
      | none => rfl
      | some o =>
        obtain ⟨o', q'⟩ := J.base.there a o q (by rw [hex]; exact List.not_mem_nil)
        rw [nI] at q'
        cases q'
    have S3 := J3.suite he3 hd3 na nL nF
    refine wpAny_handleBy_cons (codeAny_handlers_test ?_) (by intro q; cases q)
    have LT : PySem.W.Looks (model X.prog X.w) h3 (typeOf (.ref a)) cls := fun A Q E s' kk q => wpAny_typeOf_ref (kk _ _ he3) (by rw [hz3.1]; exact q)
    have LM := PySem.W.exm_one (M := model X.prog X.w) J3.kIn LT hm
    have test : ∀ {Q : Value → Shared → Prop} {E : Value → Shared → Prop}, Q c { s1 with heap := h3 } → wpAny (model X.prog X.w) (X.A.mark (some (.ref a))) (eval (.Name x np) X.env) Q E { s1 with heap := h3 } := fun {Q E} q => by
      obtain ⟨hg, hdbg, hm1 | ⟨hm1, hv, hnn⟩⟩ := hc
      · exact ld_glob (X := X.suite a ((a, oe3) :: (X.pn ++ pins))) S3 hg hm1 q hdbg
      · exact ld_blt (X := X.suite a ((a, oe3) :: (X.pn ++ pins))) S3 hg hm1 hv q hnn hdbg
    refine test (LM.here (codeAny_handlers_suite_as (HandSPX.lands_againZ fl3 fun h4 fl4 up4 => ?_)))
    have J4 : Inv X pins σ1 H1 { s1 with heap := h4 } := J.landed nb fl4.1 ((up.trans up3).trans up4) os ag
    obtain ⟨oe4, vs4, he4, hz4, hd4⟩ := fl4.there
    have S4 := J4.suite he4 hd4 na nL nF
    refine store_ok (X := X.suite a ((a, oe4) :: (X.pn ++ pins))) (v := .ref a) S4 hN hi (.inl hln) rfl (fun s5 S5 => ?_) (.inr hln)
    -- the pin becomes tracked
    have S5' : Inv (X.suite a (X.pn ++ pins)) [(a, oe4)] (σ1.set i (some (.ref a))) H1 s5 := ⟨ok.suite _ _, S5.os, S5.bare, S5.base, S5.loc, S5.cell, S5.free, S5.freeC, fun p hp => S5.pin p (by
      rcases List.mem_append.mp hp with q | q
      · exact List.mem_append_left _ (List.mem_cons_of_mem _ q)
      · have e : p = (a, oe4) := by simpa using q
        rw [e]
        exact List.mem_append_left _ List.mem_cons_self), S5.hok, S5.len⟩
    have T5 : Inv (X.suite a (X.pn ++ pins)) [] (σ1.set i (some (.ref a))) (upd H1 a (ExH cls a)) s5 := inv_track S5' n0 hz4 hd4 (fun y c1 q => by
      have q' : X.env.cells.lookup y = some c1 := q
      rw [hnc] at q'; cases q') (fun p hp z => by
      rw [List.append_nil] at hp
      have q1 := (J.pin p hp).1
      rw [z, nI] at q1
      cases q1)
    have back : ∀ {σ6 : L2.St} {H6 : Hp} {s6 : Shared}, Inv (X.suite a (X.pn ++ pins)) [] σ6 H6 s6 → Inv X pins σ6 H6 s6 := fun {σ6 H6 s6} S6 => ⟨ok, S6.os, S6.bare, S6.base, S6.loc, S6.cell, S6.free, S6.freeC, fun p hp => S6.pin p (List.mem_append_left _ hp), S6.hok, S6.len⟩
    refine wpAny_mono ((hsu a (X.pn ++ pins)).run [] s5 _ (upd H1 a (ExH cls a)) _ T5 (hgo a na)) (fun f s6 hsp => ?_) fun _ _ z => False.elim z
    cases f with
    | next =>
      obtain ⟨σ6, H6, S6, q6⟩ := hsp
      exact gone_ok (back S6) hN hi hln fun s7 J7 => ⟨_, _, J7, q6⟩
    | brk =>
      obtain ⟨σ6, H6, S6, q6⟩ := hsp
      exact gone_ok (back S6) hN hi hln fun s7 J7 => ⟨_, _, J7, q6⟩
    | cont =>
      obtain ⟨σ6, H6, S6, q6⟩ := hsp
      exact gone_ok (back S6) hN hi hln fun s7 J7 => ⟨_, _, J7, q6⟩
    | ret u =>
      obtain ⟨v6, σ6, H6, S6, r6, q6⟩ := hsp
      exact gone_ok (back S6) hN hi hln fun s7 J7 => ⟨_, _, _, J7, r6, q6⟩
  refine wpAny_mono ((hb (wHot X.K c i ts D) (X.pn ++ pins) xe tk PassesOwn.looking).run [] s σ H D (I.toTry _) h) (fun f s1 hsp => ?_) (fun e s1 he => he)
  cases f with
  | next =>
    obtain ⟨σ', H', J', q⟩ := hsp
    exact wpAny_execs_nil ⟨σ', H', J'.ofTry ok, q⟩
  | brk =>
    obtain ⟨σ', H', J', q⟩ := hsp
    exact ⟨σ', H', J'.ofTry ok, q⟩
  | cont =>
    obtain ⟨σ', H', J', q⟩ := hsp
    exact ⟨σ', H', J'.ofTry ok, q⟩
  | ret u =>
    obtain ⟨v, σ', H', J', r, q⟩ := hsp
    exact ⟨v, σ', H', J'.ofTry ok, r, q⟩
end
end Cs
set_option Elab.async false
set_option linter.all false
set_option maxRecDepth 100000
set_option maxHeartbeats 4000000
namespace Cs
open PySem PySem.Spec PyProof.Rows L2
/-! ### data compared -/
mutual
def pyD : D → PyData
  | .non => .none
  | .bl b => .bool b
  | .int i => .int i
  | .str x => .str x
  | .obj _ => .none
  | .tup xs => .tuple (pyL xs)
  | .lst xs => .list (pyL xs)
def pyL : List D → List PyData
  | [] => []
  | x :: xs => pyD x :: pyL xs
end
mutual
/-- data no deeper than n -/
def dpt : Nat → D → Bool
  | _, .non => true
  | _, .bl _ => true
  | _, .int _ => true
  | _, .str _ => true
  | _, .obj _ => false
  | 0, .tup _ => false
  | 0, .lst _ => false
  | n + 1, .tup xs => dptL n xs
  | n + 1, .lst xs => dptL n xs
def dptL : Nat → List D → Bool
  | _, [] => true
  | n, x :: xs => dpt n x && dptL n xs
end
theorem dptL_of {n : Nat} : ∀ {xs : List D}, (∀ x ∈ xs, dpt n x = true) → dptL n xs = true
  | [], _ => by unfold dptL; rfl
  | x :: xs, h => by
    unfold dptL
    rw [h x (by simp), dptL_of fun y hy => h y (by simp [hy])]
    rfl
theorem dpt_flat {n : Nat} {d : D} (h : d.flat = true) : dpt n d = true := by
  cases d <;> first | (cases n <;> (unfold dpt; rfl)) | cases h
theorem dpt_tup {n : Nat} {xs : List D} (h : ∀ x ∈ xs, dpt n x = true) : dpt (n + 1) (.tup xs) = true := by
  unfold dpt
  exact dptL_of h
theorem dpt_lst {n : Nat} {xs : List D} (h : ∀ x ∈ xs, dpt n x = true) : dpt (n + 1) (.lst xs) = true := by
  unfold dpt
  exact dptL_of h
mutual
theorem Is.dp {K : PySem.W.Frag} {H : Hp} : ∀ {n : Nat} {d : D} {v : V}, dpt n d = true → Is H d v → Dp K H v (pyD d)
  | _, .non, _, _, h => by
    cases (show _ = _ from h)
    exact .non
  | _, .bl b, _, _, h => by
    cases (show _ = _ from h)
    exact .bl b
  | _, .int i, _, _, h => by
    cases (show _ = _ from h)
    exact .int i
  | _, .str x, _, _, h => by
    cases (show _ = _ from h)
    exact .str x
  | n, .obj _, _, p, _ => by
    cases n <;> (unfold dpt at p; cases p)
  | 0, .tup _, _, p, _ => by
    unfold dpt at p
    cases p
  | 0, .lst _, _, p, _ => by
    unfold dpt at p
    cases p
  | n + 1, .tup xs, _, p, ⟨a, vs, e, q, r⟩ => by
    subst e
    unfold dpt at p
    exact .tup (SqT.of q) (IsL.dp p r)
  | n + 1, .lst xs, _, p, ⟨a, vs, e, q, r⟩ => by
    subst e
    unfold dpt at p
    exact .lst (SqL.of q) (IsL.dp p r)
theorem IsL.dp {K : PySem.W.Frag} {H : Hp} : ∀ {n : Nat} {ds : List D} {vs : List V}, dptL n ds = true → IsL H ds vs → DpAll K H vs (pyL ds)
  | _, [], _, _, h => by
    cases (show _ = _ from h)
    exact .nil
  | n, d :: ds, _, p, ⟨v, r, e, h, t⟩ => by
    subst e
    unfold dptL at p
    have p' := Bool.and_eq_true_iff.mp p
    exact .cons (Is.dp p'.1 h) (IsL.dp p'.2 t)
end
mutual
theorem py_plain : ∀ d : D, (pyD d).plain = true
  | .non => by simp [pyD, PyData.plain]
  | .bl _ => by simp [pyD, PyData.plain]
  | .int _ => by simp [pyD, PyData.plain]
  | .str _ => by simp [pyD, PyData.plain]
  | .obj _ => by simp [pyD, PyData.plain]
  | .tup xs => by
    rw [pyD]
    simp only [PyData.plain]
    exact py_plainL xs
  | .lst xs => by
    rw [pyD]
    simp only [PyData.plain]
    exact py_plainL xs
theorem py_plainL : ∀ ds : List D, PyData.plainAll (pyL ds) = true
  | [] => by simp [pyL, PyData.plainAll]
  | d :: ds => by
    rw [pyL]
    simp only [PyData.plainAll, py_plain d, py_plainL ds, Bool.and_self]
end
mutual
theorem py_depth : ∀ {n : Nat} {d : D}, dpt n d = true → (pyD d).depth ≤ n
  | _, .non, _ => by simp [pyD, PyData.depth]
  | _, .bl _, _ => by simp [pyD, PyData.depth]
  | _, .int _, _ => by simp [pyD, PyData.depth]
  | _, .str _, _ => by simp [pyD, PyData.depth]
  | _, .obj _, _ => by simp [pyD, PyData.depth]
  | 0, .tup _, p => by
    unfold dpt at p
    cases p
  | 0, .lst _, p => by
    unfold dpt at p
    cases p
  | n + 1, .tup xs, p => by
    unfold dpt at p
    have := py_depthL p
    rw [pyD]
    simp only [PyData.depth]
    omega
  | n + 1, .lst xs, p => by
    unfold dpt at p
    have := py_depthL p
    rw [pyD]
    simp only [PyData.depth]
    omega
theorem py_depthL : ∀ {n : Nat} {ds : List D}, dptL n ds = true → PyData.depthAll (pyL ds) ≤ n
  | _, [], _ => by simp [pyL, PyData.depthAll]
  | n, d :: ds, p => by
    unfold dptL at p
    have p' := Bool.and_eq_true_iff.mp p
    have h1 := py_depth p'.1
    have h2 := py_depthL p'.2
    rw [pyL]
    simp only [PyData.depthAll]
    omega
end
def eqD (a b : D) : Bool := PyData.eqv (pyD a) (pyD b)
theorem eqD_self (a : D) : eqD a a = true := SeqAt.eqv_refl_plain _ (py_plain a)
abbrev rEqP (K : PySem.W.Frag) : R2 := fun x y H Q => ∃ d e, Dp K H x d ∧ Dp K H y e ∧ d.plain = true ∧ e.plain = true ∧ d.depth ≤ 64 ∧ Q (.bl (PyData.eqv d e)) H
abbrev rNeP (K : PySem.W.Frag) : R2 := fun x y H Q => ∃ d e, Dp K H x d ∧ Dp K H y e ∧ d.plain = true ∧ e.plain = true ∧ d.depth ≤ 64 ∧ Q (.bl (!PyData.eqv d e)) H
theorem op_eqP {X : Cx} (hu : X.A.units + 65 < cLine) : OpR X (compareOp .Eq) (rEqP X.K) := by
  intro pins s σ H x y v u Q I rx ry h
  obtain ⟨d, e, hd, he, sd, se, hde, q⟩ := h
  obtain ⟨as, r1⟩ := Dp.reads I d x v hd rx
  obtain ⟨bs, r2⟩ := Dp.reads I e y u he ry
  exact SeqAt.eq_plain r1 r2 sd se (by have := Nat.min_le_left d.depth e.depth; omega) ⟨.bl _, H, I, rfl, q⟩
theorem op_neP {X : Cx} (hu : X.A.units + 65 < cLine) : OpR X (compareOp .NotEq) (rNeP X.K) := by
  intro pins s σ H x y v u Q I rx ry h
  obtain ⟨d, e, hd, he, sd, se, hde, q⟩ := h
  obtain ⟨as, r1⟩ := Dp.reads I d x v hd rx
  obtain ⟨bs, r2⟩ := Dp.reads I e y u he ry
  exact SeqAt.ne_plain r1 r2 sd se (by have := Nat.min_le_left d.depth e.depth; omega) ⟨.bl _, H, I, rfl, q⟩
abbrev rNotInQ (K : PySem.W.Frag) : R2 := fun x y H Q => ∃ d ds, Dp K H x d ∧ Dp K H y (.list ds) ∧ d.plain = true ∧ PyData.plainAll ds = true ∧ d.depth ≤ 60 ∧ Q (.bl (!ds.any fun z => PyData.eqv z d)) H
theorem op_notInQ {X : Cx} (hu : X.A.units + 65 < cLine) : OpR X (compareOp .NotIn) (rNotInQ X.K) := by
  intro pins s σ H x y v u Q I rx ry h
  obtain ⟨d, e, hd, he, sd, se, hde, q⟩ := h
  obtain ⟨as, r1⟩ := Dp.reads I d x v hd rx
  obtain ⟨bs, r2⟩ := Dp.reads I (.list e) y u he ry
  exact SeqAt.notIn_list_data r2 r1 se sd (by have := Nat.min_le_right (PyData.depthAll e) d.depth; omega) ⟨.bl _, H, I, rfl, q⟩
section
variable {K : PySem.W.Frag} {H : Hp} {a b : D} {m n : Nat}
theorem pyL_any (xs : List D) (d : D) : ((pyL xs).any fun z => PyData.eqv z (pyD d)) = xs.any fun z => eqD z d := by
  induction xs with
  | nil => rfl
  | cons x r ih =>
    show (PyData.eqv (pyD x) (pyD d) || _) = _
    rw [ih]
    rfl
theorem op_notInDD {xs : List D} (ha : dpt n a = true) (hb : dpt m (.lst xs) = true) (hn : n ≤ 60) : Op (rNotInQ K) H a (.lst xs) (.bl (!xs.any fun z => eqD z a)) := fun H1 _ x y hx hy Q k => ⟨pyD a, pyL xs, hx.dp ha, hy.dp hb, py_plain a, py_plainL xs, Nat.le_trans (py_depth ha) hn, by
  rw [pyL_any]
  exact k _ H1 (Same.refl _) rfl⟩
theorem op_eqDD (ha : dpt n a = true) (hb : dpt m b = true) (hn : n ≤ 64) : Op (rEqP K) H a b (.bl (eqD a b)) := fun H1 _ x y hx hy Q k => ⟨pyD a, pyD b, hx.dp ha, hy.dp hb, py_plain a, py_plain b, Nat.le_trans (py_depth ha) hn, k _ H1 (Same.refl _) rfl⟩
theorem op_neDD (ha : dpt n a = true) (hb : dpt m b = true) (hn : n ≤ 64) : Op (rNeP K) H a b (.bl (!eqD a b)) := fun H1 _ x y hx hy Q k => ⟨pyD a, pyD b, hx.dp ha, hy.dp hb, py_plain a, py_plain b, Nat.le_trans (py_depth ha) hn, k _ H1 (Same.refl _) rfl⟩
end
end Cs
set_option Elab.async false
set_option linter.all false
set_option maxRecDepth 100000
set_option maxHeartbeats 4000000
namespace Cs
open PySem PySem.Spec PyProof.Rows L2
section
variable {K : PySem.W.Frag} {ds : List (Option D)} {H : Hp} {ta te tl : TE} {t : TT} {tr : TA} {tu tz : TS} {E : Ends} {ι : Type}
/-- for j in range(m): .. , by what holds at each turn -/
theorem go_forRg {m : Int} {j : Nat} (ha : EvA tr ds H [.int m]) (m0 : 0 ≤ m) (m1 : m ≤ 100000) (P : Nat → ι → Hp → Prop) (env : ι → List (Option D)) (i0 : ι) (he : env i0 = ds) (h0 : ∀ H', Ex H H' → P 0 i0 H')
    (hb : ∀ (i : Nat) s H1 (N : L2.St → Hp → Prop), (i : Int) < m → P i s H1 → (∀ s' σ H2, P (i + 1) s' H2 → EnvOk H2 σ (env s') → N σ H2) → Go tu ((env s).set j (some (.int (i : Int)))) H1 { E with nx := N, ct := N, bk := tz E })
    (k : ∀ s H1, P m.toNat s H1 → Go tz (env s) H1 E) : Go (tSeq (tFor (iRng1 tr) (gName j) tu) tz) ds H E := fun σ H0 e n =>
  ha σ H0 e n _ fun vs H1 e1 hv => by
    obtain ⟨v, r, rfl, hv, hr⟩ := hv
    cases (show _ = _ from hr)
    cases (show _ = _ from hv)
    refine ⟨m, rfl, by omega, by omega, for_range (lo := 0) (n := m.toNat) (fun i σ' H' => ∃ s, P i s H' ∧ EnvOk H' σ' (env s)) ⟨i0, h0 H1 (e.trans e1), by rw [he]; exact n.mono e1⟩ (fun i σ' H' hi q => ?_) fun σ' H' q => let ⟨s, p, n'⟩ := q; k s H' p σ' H' (Same.refl _) n'⟩
    obtain ⟨s, p, n'⟩ := q
    rw [Int.zero_add]
    exact hb i s H' _ (by omega) p (fun s' σ2 H2 p2 n2 => ⟨s', p2, n2⟩) _ H' (Same.refl _) (n'.set (d := .int (i : Int)) (v := .int (i : Int)) rfl j)
/-- over a list that stands, by what keeps it -/
theorem go_forAd {ns : List Int} {j : Nat} {l : Addr} (hl : EvD tl ds H (.obj l)) (P : Nat → ι → Hp → Prop) (env : ι → List (Option D)) (i0 : ι) (he : env i0 = ds) (h0 : ∀ H', Ex H H' → P 0 i0 H') (hk : ∀ i s H', P i s H' → H' l = some (.lst (ns.map V.int)))
    (hs : ∀ i n s H1, ns[i]? = some n → P i s H1 → ∀ N : L2.St → Hp → Prop, (∀ s' σ H2, P (i + 1) s' H2 → EnvOk H2 σ (env s') → N σ H2) → Go tu ((env s).set j (some (.int n))) H1 { E with nx := N, ct := N, bk := tz E })
    (hd : ∀ s H1, P ns.length s H1 → Go tz (env s) H1 E) : Go (tSeq (tFor (iList K tl) (gName j) tu) tz) ds H E := fun σ H1 e n =>
  hl σ H1 e n _ fun v H2 e2 hv => by
    cases (show _ = _ from hv)
    have p0 := h0 H2 (e.trans e2)
    refine ⟨l, rfl, ⟨_, SqL.of (hk _ _ _ p0)⟩, for_list (xs := ns.map V.int) (fun i σ' H' => ∃ s, P i s H' ∧ EnvOk H' σ' (env s)) ⟨i0, p0, by rw [he]; exact n.mono e2⟩ (fun i σ' H' _ p => let ⟨_, p, _⟩ := p; SqL.of (hk _ _ _ p)) (fun i x σ' H' hx p => ?_) fun σ' H' p => ?_⟩
    · obtain ⟨s, ps, n'⟩ := p
      rw [List.getElem?_map] at hx
      obtain ⟨m, hm, rfl⟩ : ∃ m, ns[i]? = some m ∧ V.int m = x := by
        cases e3 : ns[i]? with
        | none => rw [e3] at hx; cases hx
        | some m => rw [e3] at hx; exact ⟨m, rfl, Option.some.inj hx⟩
      exact hs i m s H' hm ps _ (fun s' σ2 H3 p3 n3 => ⟨s', p3, n3⟩) _ H' (Same.refl _) (n'.set (d := .int m) (v := .int m) rfl j)
    · obtain ⟨s, ps, n'⟩ := p
      rw [List.length_map] at ps
      exact hd s H' ps σ' H' (Same.refl _) n'
/-- if c: (what may go on) .. the rest, by what holds behind it -/
theorem go_whenJ {b : Bool} (P : ι → Hp → Prop) (env : ι → List (Option D)) (h : EvB t ds H b) (h1 : b = true → ∀ N : L2.St → Hp → Prop, (∀ s σ H', P s H' → EnvOk H' σ (env s) → N σ H') → Go tu ds H { E with nx := N })
    (h2 : b = false → ∀ σ H', Ex H H' → EnvOk H' σ ds → ∃ s, P s H' ∧ EnvOk H' σ (env s)) (k : ∀ s H', P s H' → Go tz (env s) H' E) : Go (tSeq (tIfS t tu tNext) tz) ds H E := fun σ H1 e n =>
  h σ H1 e n _ fun H2 e2 => by
    cases b with
    | true => exact iteT (h1 rfl (tz E) (fun s σ' H' p n' => k s H' p σ' H' (Same.refl _) n') σ H2 (e.trans e2) (n.mono e2))
    | false =>
      obtain ⟨s, p, n'⟩ := h2 rfl σ H2 (e.trans e2) (n.mono e2)
      exact iteF (k s H2 p σ H2 (Same.refl _) n')
end
/-- if not _law_run(house, state, cells, words): return False; cells any new list -/
theorem go_runEV {K : PySem.W.Frag} {ds : List (Option D)} {H H0 : Hp} {tc tw t1 t2 : TE} {tz tu : TS} {E : Ends} {X1 : XK} {p q : Addr} {F : Foot} {G : SFoot} {L0 : List Addr} {b : Nat} {h : HS} {cs : List Int} {ws : List Wd} (r : Run K p q H0 L0 b h H F G)
    (h1 : EvD t1 ds H (.obj p)) (h2 : EvD t2 ds H (.obj q)) (hc : EvL tc ds H (cs.map D.int)) (hw : EvD tw ds H (.tup (ws.map fun w => .str w.s))) (hws : ws ≠ []) (okw : ∀ w ∈ ws, okW w = true) (hb : bnd b cs.length < 64) (pe : pureE ds = true)
    (k : ∀ h' H' F' G', Run K p q H0 L0 (bnd b cs.length) h' H' F' G' → Fr (fp p F ++ sfp q G) H H' → Via h h' → Go tz ds H' E) :
    Go (tSeq (tIfS (tNot (tB (tCall (sp_law_run K) [] X1 (tCons t1 (tCons t2 (tCons tc (tCons tw tNil))))))) tu tNext) tz) ds H E := fun σ H1 e n =>
  h1 σ H1 e n _ fun v1 H2 e2 hv1 => h2 σ H2 (e.trans e2) (n.mono e2) _ fun v2 H3 e3 hv2 => by
    have e13 := e2.trans e3
    have n3 := n.mono e13
    refine hc σ H3 (e.trans e13) n3 _ fun l vs H7 hl e7 hl7 il => ?_
    cases (show _ = _ from hv1)
    cases (show _ = _ from hv2)
    have hvs := il.ints
    subst hvs
    refine hw σ H7 ((e.trans e13).trans e7) (n3.mono e7) _ fun v8 H8 e8 hv8 => ?_
    have e08 : Ex H H8 := ((e.trans e13).trans e7).trans e8
    have r8 := r.ex e08
    refine ⟨p, q, l, v8, F, G, h, b, cs, ws, rfl, hv8, e8 _ _ hl7, fun hm' => ?_, ⟨r8.ha, r8.sa, r8.ap, r8.iv, fun _ _ z _ => z, NewL.refl, r8.cb⟩, hws, okw, hb, fun h' H' F' G' r' via => ⟨true, rfl, iteF ?_⟩⟩
    · have h0 : H l = none := (e.trans e13).free hl
      rcases List.mem_append.mp hm' with z | z
      · exact r.ha.fp_some z h0
      · exact r.sa.sfp_some z h0
    · have fr : Fr (fp p F ++ sfp q G) H H' := Fr.ex_trans e08 r'.fr
      have nw : NewL H (fp p F ++ sfp q G) (fp p F' ++ sfp q G') := fun c hc => by
        rcases r'.nw c hc with z | z
        · exact .inl z
        · exact .inr (e08.free z)
      refine k h' H' F' G' ⟨r'.ha, r'.sa, r'.ap, r'.iv, Fr.transL r.fr r.nw fr, r.nw.trans r.fr nw, r'.cb⟩ fr via σ H' (Same.refl _) ?_
      refine (n.mono (((e13.trans e7).trans e8))).tups (fun c vs hc => r'.fr c _ hc fun hm' => ?_) pe
      rcases List.mem_append.mp hm' with z | z
      · exact r8.ha.not_tup hc z
      · exact r8.sa.not_tup hc z
theorem go_runE {K : PySem.W.Frag} {ds : List (Option D)} {H H0 : Hp} {tc tw t1 t2 : TE} {tz tu : TS} {E : Ends} {X1 : XK} {p q : Addr} {F : Foot} {G : SFoot} {L0 : List Addr} {b : Nat} {h : HS} {cs : List Int} {ws : List Wd} (r : Run K p q H0 L0 b h H F G)
    (h1 : EvD t1 ds H (.obj p)) (h2 : EvD t2 ds H (.obj q)) (hc : EvL tc ds H (cs.map D.int)) (hw : EvD tw ds H (.tup (ws.map fun w => .str w.s))) (hws : ws ≠ []) (okw : ∀ w ∈ ws, okW w = true) (hb : bnd b cs.length < 64) (pe : pureE ds = true)
    (k : ∀ h' H' F' G', Run K p q H0 L0 (bnd b cs.length) h' H' F' G' → Fr (fp p F ++ sfp q G) H H' → Go tz ds H' E) :
    Go (tSeq (tIfS (tNot (tB (tCall (sp_law_run K) [] X1 (tCons t1 (tCons t2 (tCons tc (tCons tw tNil))))))) tu tNext) tz) ds H E := go_runEV r h1 h2 hc hw hws okw hb pe fun h' H' F' G' r' fr _ => k h' H' F' G' r' fr
end Cs
set_option Elab.async false
set_option linter.all false
set_option maxRecDepth 100000
set_option maxHeartbeats 4000000
namespace Cs
open PySem PySem.Spec PyProof.Rows L2
/-! ### deeds told and done, without a look between -/
section
variable {K : PySem.W.Frag} {ds : List (Option D)} {H H0 : Hp} {ta tb te tl tw : TE} {tr tr1 tr2 : TA} {tu tz : TS} {E : Ends} {X X1 X2 X3 : XK} {p q : Addr} {F : Foot} {G : SFoot} {L0 : List Addr} {b : Nat} {h h' hs : HS} {as : List D} {o : Out} {Pre : HS → List D → Out → Prop} {ι : Type}
/-- a def that does a deed of a house, as a value -/
theorem w_callW {σ : L2.St} {H1 : Hp} {Q : VK} (x : HAt (hC K) H p F h) (ha : EvA tr ds H (.obj p :: as)) (pa : D.pureL as = true) (hp : Pre h as o) (e : Ex H H1) (n : EnvOk H1 σ ds)
    (k1 : ∀ d h', o = .ok d h' → ∀ v H2 F', HAt (hC K) H2 p F' h' → Fr (fp p F) H1 H2 → Fresh p H1 F F' → Is H2 d v → Q v H2) (k2 : ∀ x, o = .err x → ∀ H2, Ex H1 H2 → X (.ref (He.ga K x)) none H2) : tCall (wsp K Pre) [] X tr σ H1 Q :=
  ha σ H1 e n _ fun vs H2 e2 hv => by
    rw [List.append_nil]
    refine ⟨p, F, h, as, o, hv, pa, x.mono (e.trans e2), hp, fun d h' hd v H3 F' y r f hd' => ?_, fun z hz H3 e3 => k2 z hz H3 (e2.trans e3)⟩
    exact k1 d h' hd v H3 F' y (Fr.ex_trans e2 r) (Fresh.ex e2 f) hd'
/-- a house and a state that stand apart -/
structure Two (K : PySem.W.Frag) (p q : Addr) (H0 : Hp) (L0 : List Addr) (hh hs : HS) (H : Hp) (F : Foot) (G : SFoot) : Prop where
  ha : HAt (hC K) H p F hh
  sa : SAt H q G hs.abs
  ap : Apart (fp p F) (sfp q G)
  fr : Fr L0 H0 H
  nw : NewL H0 L0 (fp p F ++ sfp q G)
theorem Two.ex {H' : Hp} (r : Two K p q H0 L0 h hs H F G) (e : Ex H H') : Two K p q H0 L0 h hs H' F G := ⟨r.ha.mono e, r.sa.mono e, r.ap, r.fr.trans_ex e, r.nw⟩
theorem Run.two (r : Run K p q H0 L0 b h H F G) : Two K p q H0 L0 h h H F G := ⟨r.ha, r.sa, r.ap, r.fr, r.nw⟩
theorem Two.run (r : Two K p q H0 L0 h h H F G) (iv : HInv h b) (cb : h.count ≤ 13 * (b : Int)) : Run K p q H0 L0 b h H F G := ⟨r.ha, r.sa, r.ap, iv, r.fr, r.nw, cb⟩
/-- the house alone is changed -/
theorem Two.house {H' : Hp} {F' : Foot} (r : Two K p q H0 L0 h hs H F G) (y : HAt (hC K) H' p F' h') (fr : Fr (fp p F) H H') (fs : Fresh p H F F') : Two K p q H0 L0 h' hs H' F' G := by
  have tp1 : ∀ a vs, H a = some (.tup vs) → H' a = some (.tup vs) := fun a vs e => fr a _ e (r.ha.not_tup e)
  have ap0 : Apart (sfp q G) (fp p F) := fun c hc hm => r.ap c hm hc
  refine ⟨y, r.sa.frame fr ap0 tp1, fun c hc hm => ?_, Fr.transL r.fr r.nw fr.left, r.nw.trans r.fr fun c hc => ?_⟩
  · rcases fs c hc with w | w
    · exact r.ap c w hm
    · exact r.sa.sfp_some hm w
  · rcases List.mem_append.mp hc with m | m
    · rcases fs c m with w | w
      · exact .inl (List.mem_append_left _ w)
      · exact .inr w
    · exact .inl (List.mem_append_right _ m)
/-- the state alone is changed -/
theorem Two.state {H' : Hp} {G' : SFoot} (r : Two K p q H0 L0 h hs H F G) (y : SAt H' q G' h'.abs) (fr : Fr (sfp q G) H H') (fs : SFresh q H G G') : Two K p q H0 L0 h h' H' F G' := by
  have tp1 : ∀ a vs, H a = some (.tup vs) → H' a = some (.tup vs) := fun a vs e => fr a _ e (r.sa.not_tup e)
  refine ⟨r.ha.frame fr r.ap tp1, y, fun c hc hm => ?_, Fr.transL r.fr r.nw fr.right, r.nw.trans r.fr fun c hc => ?_⟩
  · rcases fs c hm with w | w
    · exact r.ap c hc w
    · exact r.ha.fp_some hc w
  · rcases List.mem_append.mp hc with m | m
    · exact .inl (List.mem_append_left _ m)
    · rcases fs c m with w | w
      · exact .inl (List.mem_append_right _ w)
      · exact .inr w
theorem deed_pureL (dd : Deed) : D.pureL [dd.d] = true := by
  show (dd.d.pure && true) = true
  rw [dd.pure]
  rfl
/-- _law_told(house, deed) -/
theorem told_w {σ : L2.St} {H1 : Hp} {Q : VK} {dd : Deed} (r : Two K p q H0 L0 h hs H F G) (iv : HInv h b) (hb : b < 64) (ok : okDeed dd = true) (oa : okAt h dd) (ha : EvA tr ds H [.obj p, dd.d]) (pe : pureE ds = true) (e : Ex H H1) (n : EnvOk H1 σ ds)
    (k : ∀ d h' v H2 F2, h.toldO dd = .ok d h' → h.doS dd = (d, h'.abs) → HInv h' (nb b) → dep 5 d = true → d.pure = true → Two K p q H0 L0 h' hs H2 F2 G → Fr (fp p F) H1 H2 → Fresh p H1 F F2 → EnvOk H2 σ ds → Is H2 d v → Q v H2) : tCall (sp_law_told K) [] X tr σ H1 Q := by
  obtain ⟨d0, h0, ht, hd, iv', dp, pd⟩ := step_all iv hb ok oa
  refine w_callW r.ha ha (deed_pureL dd) ⟨dd, rfl, ok, ⟨oa, b, iv, hb⟩, rfl⟩ e n (fun d h' hd' v H2 F2 y fr fs hv => ?_) (fun x hx => by rw [ht] at hx; cases hx)
  rw [ht] at hd'
  cases hd'
  exact k d0 h0 v H2 F2 ht hd iv' dp pd ((r.ex e).house y fr fs) fr fs ((r.ha.mono e).keepE fr pe n) hv
/-- x = _law_told(house, deed) -/
theorem go_asgTold {dd : Deed} {j : Nat} (r : Two K p q H0 L0 h hs H F G) (iv : HInv h b) (hb : b < 64) (ok : okDeed dd = true) (oa : okAt h dd) (ha : EvA tr ds H [.obj p, dd.d]) (pe : pureE ds = true)
    (k : ∀ d h' H1 H2 F2, h.toldO dd = .ok d h' → h.doS dd = (d, h'.abs) → HInv h' (nb b) → dep 5 d = true → d.pure = true → Ex H H1 → Two K p q H0 L0 h' hs H2 F2 G → Fr (fp p F) H1 H2 → Fresh p H1 F F2 → Go tz (ds.set j (some d)) H2 E) : Go (tSeq (tAsg (tCall (sp_law_told K) [] X tr) (gName j)) tz) ds H E := fun σ H1 e n =>
  told_w (X := X) r iv hb ok oa ha pe e n fun d h' v H2 F2 ht hd iv' dp pd r2 fr2 fs2 n2 hv => k d h' H1 H2 F2 ht hd iv' dp pd e r2 fr2 fs2 _ H2 (Same.refl _) (n2.set hv j)
/-- _law_do(state, deed) -/
theorem do_w {σ : L2.St} {H1 : Hp} {Q : VK} {dd : Deed} {d : D} (r : Two K p q H0 L0 h hs H F G) (iv : HInv hs b) (hb : b < 64) (ok : okDeed dd = true) (oa : okAt hs dd) (hd : hs.doS dd = (d, h'.abs)) (ha : EvA tr ds H [.obj q, dd.d]) (pe : pureE ds = true) (e : Ex H H1) (n : EnvOk H1 σ ds)
    (k : ∀ v H2 G2, Two K p q H0 L0 h h' H2 F G2 → Fr (sfp q G) H1 H2 → SFresh q H1 G G2 → EnvOk H2 σ ds → Is H2 d v → Q v H2) : tCall (sp_law_do K) [] X tr σ H1 Q :=
  w_s r.sa ha (deed_pureL dd) ⟨hs, b, dd, rfl, rfl, ok, oa, iv, hb, hd.symm⟩ e n fun v H2 G2 y fr fs hv => k v H2 G2 ((r.ex e).state y fr fs) fr fs ((r.sa.mono e).keepE fr pe n) hv
/-- _law_do(state, deed), as a statement -/
theorem go_doDeed {dd : Deed} {d : D} (r : Two K p q H0 L0 h hs H F G) (iv : HInv hs b) (hb : b < 64) (ok : okDeed dd = true) (oa : okAt hs dd) (hd : hs.doS dd = (d, h'.abs)) (ha : EvA tr ds H [.obj q, dd.d]) (pe : pureE ds = true)
    (k : ∀ H1 H2 G2, Ex H H1 → Two K p q H0 L0 h h' H2 F G2 → Fr (sfp q G) H1 H2 → SFresh q H1 G G2 → Go tz ds H2 E) : Go (tSeq (tDrop (tCall (sp_law_do K) [] X tr)) tz) ds H E := fun σ H1 e n =>
  do_w (X := X) r iv hb ok oa hd ha pe e n fun v H2 G2 r2 fr2 fs2 n2 hv => k H1 H2 G2 e r2 fr2 fs2 σ H2 (Same.refl _) n2
/-- .. both, as the last statements of a block -/
theorem go_both {dd : Deed} (r : Run K p q H0 L0 b h H F G) (hb : nb b < 64) (ok : okDeed dd = true) (oa : okAt h dd) (h1 : EvA tr1 ds H [.obj p, dd.d]) (h2 : ∀ H', EvA tr2 ds H' [.obj q, dd.d]) (pe : pureE ds = true)
    (k : ∀ d h' H' F' G' σ, h.toldO dd = .ok d h' → Run K p q H0 L0 (nb b) h' H' F' G' → Fr (fp p F ++ sfp q G) H H' → EnvOk H' σ ds → E.nx σ H') : Go (tSeq (tDrop (tCall (sp_law_told K) [] X1 tr1)) (tDrop (tCall (sp_law_do K) [] X2 tr2))) ds H E := fun σ H1 e n => by
  have hb' : b < 64 := Nat.lt_of_le_of_lt (Nat.le_of_succ_le (nb_ge b)) hb
  refine told_w (X := X1) r.two r.iv hb' ok oa h1 pe e n fun d h' v H2 F2 ht hd iv' dp pd r2 fr2 fs2 n2 hv => ?_
  refine do_w (X := X2) r2 r.iv hb' ok oa hd (h2 H2) pe (Same.refl _) n2 fun v3 H3 G3 r3 fr3 fs3 n3 hv3 => ?_
  have cb' : h'.count ≤ 13 * ((nb b : Nat) : Int) := by
    have h1 := told_count r.iv ok oa ht
    have h2 := r.cb
    have h3 := nb_ge b
    omega
  refine k d h' H3 F2 G3 σ ht (r3.run iv' cb') (fun c o ec nc => fr3 c o (fr2 c o (e c o ec) fun m => nc (List.mem_append_left _ m)) fun m => nc (List.mem_append_right _ m)) n3
/-- for x in (a new list of numbers): .. -/
theorem go_forL {ns : List Int} {j : Nat} (hl : EvL tl ds H (ns.map D.int)) (P : Addr → Hp → Nat → ι → Hp → Prop) (env : ι → List (Option D)) (i0 : ι) (he : env i0 = ds) (h0 : ∀ l H1, H l = none → Ex H H1 → H1 l = some (.lst (ns.map V.int)) → P l H1 0 i0 H1) (hk : ∀ l H1 i s H', P l H1 i s H' → H' l = some (.lst (ns.map V.int)))
    (hs : ∀ l H1 i n s H2, ns[i]? = some n → P l H1 i s H2 → ∀ N : L2.St → Hp → Prop, (∀ s' σ H3, P l H1 (i + 1) s' H3 → EnvOk H3 σ (env s') → N σ H3) → Go tu ((env s).set j (some (.int n))) H2 { E with nx := N, ct := N, bk := tz E })
    (hd : ∀ l H1 s H2, P l H1 ns.length s H2 → Go tz (env s) H2 E) : Go (tSeq (tFor (iList K tl) (gName j) tu) tz) ds H E := fun σ H1 e n =>
  hl σ H1 e n _ fun l vs H2 hl1 e2 hv il => by
    have hvs := il.ints
    subst hvs
    have p0 := h0 l H2 (e.free hl1) (e.trans e2) hv
    refine ⟨l, rfl, ⟨_, SqL.of hv⟩, for_list (xs := ns.map V.int) (fun i σ' H' => ∃ s, P l H2 i s H' ∧ EnvOk H' σ' (env s)) ⟨i0, p0, by rw [he]; exact n.mono e2⟩ (fun i σ' H' _ p => let ⟨_, p, _⟩ := p; SqL.of (hk _ _ _ _ _ p)) (fun i x σ' H' hx p => ?_) fun σ' H' p => ?_⟩
    · obtain ⟨s, ps, n'⟩ := p
      rw [List.getElem?_map] at hx
      obtain ⟨m, hm, rfl⟩ : ∃ m, ns[i]? = some m ∧ V.int m = x := by
        cases e3 : ns[i]? with
        | none => rw [e3] at hx; cases hx
        | some m => rw [e3] at hx; exact ⟨m, rfl, Option.some.inj hx⟩
      exact hs l H2 i m s H' hm ps _ (fun s' σ2 H3 p3 n3 => ⟨s', p3, n3⟩) _ H' (Same.refl _) (n'.set (d := .int m) (v := .int m) rfl j)
    · obtain ⟨s, ps, n'⟩ := p
      rw [List.length_map] at ps
      exact hd l H2 s H' ps σ' H' (Same.refl _) n'
/-- _law_cells(script, f, m): a new list -/
theorem el_cells {a : Addr} {ns : List Int} {f m : Int} {tc tm : TE} (hS : SqL K H a (ns.map V.int)) (ha : EvD ta ds H (.obj a)) (hf : EvD tc ds H (.int f)) (hm : EvD tm ds H (.int m)) (f0 : 0 ≤ f) (m0 : 0 ≤ m) (m1 : m ≤ 100000) : EvL (tCall (sp_law_cellsN K) [] X (tCons ta (tCons tc (tCons tm tNil)))) ds H ((cellsV ns f m).map D.int) := fun σ H1 e n Q k =>
  ha σ H1 e n _ fun v4 H4 e4 hv4 => hf σ H4 (e.trans e4) (n.mono e4) _ fun v5 H5 e5 hv5 => hm σ H5 ((e.trans e4).trans e5) ((n.mono e4).mono e5) _ fun v6 H6 e6 hv6 => by
    cases (show _ = _ from hv4)
    cases (show _ = _ from hv5)
    cases (show _ = _ from hv6)
    have e16 : Ex H1 H6 := (e4.trans e5).trans e6
    exact ⟨a, ns, f, m, rfl, (e.trans e16).seq hS, f0, m0, m1, fun l H7 hl e7 hl7 => k l _ H7 (e16.free hl) (e16.trans e7) hl7 (isL_ints _ _)⟩
theorem cells_len (ns : List Int) (f m : Int) : (cellsV ns f m).length = m.toNat := by simp [cellsV]
/-- the word that is drawn -/
theorem word_ok {ws : List Wd} (hws : ws ≠ []) (c : Int) : ws.getD (mixV c 9923 ws.length).toNat .make ∈ ws := by
  have hne : 0 < (ws.length : Int) := by
    cases ws with
    | nil => exact absurd rfl hws
    | cons a t => simp only [List.length_cons]; omega
  have b0 := mix_ge c 9923 ws.length hne
  have b1 := mix_lt c 9923 ws.length hne
  rw [List.getD_eq_getElem?_getD, List.getElem?_eq_getElem (by omega)]
  exact List.getElem_mem _
/-- for cell in _law_cells(..): deed = _law_deed(cell, state, words); _law_told(house, deed); _law_do(state, deed) -/
theorem go_cells {ns : List Int} {ws : List Wd} {jc jd jh js : Nat} (I : HS → Prop) (hl : EvL tl ds H (ns.map D.int)) (r : Run K p q H0 L0 b h H F G) (hI : I h)
    (dc : ds.set jc none = ds) (dd : ds.set jd none = ds) (dh : ds[jh]? = some (some (.obj p))) (dq : ds[js]? = some (some (.obj q))) (njc : jc ≠ jh ∧ jc ≠ js ∧ jd ≠ jh ∧ jd ≠ js ∧ jc ≠ jd) (lc : jc < ds.length ∧ jd < ds.length) (pe : pureE ds = true)
    (hw : ∀ n d H', EvD tw ((ds.set jc (some (.int n))).set jd d) H' (.tup (ws.map fun w => .str w.s))) (hws : ws ≠ []) (okw : ∀ w ∈ ws, okW w = true) (hb : bnd b ns.length < 64)
    (st : ∀ (h : HS) (bb : Nat) (c : Int) (w : Wd) d h', w ∈ ws → HInv h bb → bb < 64 → I h → h.toldO (h.abs.deedW c w) = .ok d h' → I h')
    (k : ∀ h' H' F' G', Run K p q H0 L0 (bnd b ns.length) h' H' F' G' → I h' → Fr (fp p F ++ sfp q G) H H' → Go tz ds H' E) :
    Go (tSeq (tFor (iList K tl) (gName jc) (tSeq (tAsg (tCall (sp_law_deed K) [] X (tCons (tVar jc) (tCons (tVar js) (tCons tw tNil)))) (gName jd)) (tSeq (tDrop (tCall (sp_law_told K) [] X1 (tCons (tVar jh) (tCons (tVar jd) tNil)))) (tDrop (tCall (sp_law_do K) [] X2 (tCons (tVar js) (tCons (tVar jd) tNil))))))) tz) ds H E := by
  have pset : ∀ (i : Nat) (d : D) (es : List (Option D)), d.pure = true → pureE es = true → pureE (es.set i (some d)) = true := by
    intro i d es hd
    induction es generalizing i with
    | nil => intro _; rfl
    | cons x xs ih =>
      intro hx
      cases x with
      | none =>
        cases i with
        | zero => exact (by show (d.pure && pureE xs) = true; rw [hd, show pureE xs = true from hx]; rfl)
        | succ i => exact ih i hx
      | some y =>
        have hx' := Bool.and_eq_true_iff.mp (show (_ && _) = true from hx)
        cases i with
        | zero => exact (by show (d.pure && pureE xs) = true; rw [hd, hx'.2]; rfl)
        | succ i => exact (by show (y.pure && pureE (xs.set i (some d))) = true; rw [hx'.1, ih i hx'.2]; rfl)
  refine go_forL (ι := HS × Foot × SFoot) (ns := ns) hl (fun l H1 i s H' => Two K p q H1 (fp p F ++ sfp q G) s.1 s.1 H' s.2.1 s.2.2 ∧ HInv s.1 (bnd b i) ∧ s.1.count ≤ 13 * ((bnd b i : Nat) : Int) ∧ I s.1 ∧ H l = none ∧ Ex H H1 ∧ H1 l = some (.lst (ns.map V.int))) (fun _ => ds) (h, F, G) rfl (fun l H1 hl1 e1 hv1 => ?_) (fun l H1 i s H' ps => ?_) (fun l H1 i c s H2 hc ps N hN => ?_) (fun l H1 s H2 ps => ?_)
  · refine ⟨⟨r.ha.mono e1, r.sa.mono e1, r.ap, fun _ _ z _ => z, NewL.refl⟩, r.iv, r.cb, hI, hl1, e1, hv1⟩
  · obtain ⟨r1, _, _, _, hl1, e1, hv1⟩ := ps
    refine r1.fr l _ hv1 fun m => ?_
    rcases List.mem_append.mp m with z | z
    · exact r.ha.fp_some z hl1
    · exact r.sa.sfp_some z hl1
  · obtain ⟨h1, F1, G1⟩ := s
    obtain ⟨r1, iv1, cb1, hI1, hl1, e1, hv1⟩ := ps
    dsimp only at r1 iv1 cb1 hI1 ⊢
    have hil : i < ns.length := (List.getElem?_eq_some_iff.mp hc).1
    have hb1 : bnd b (i + 1) < 64 := Nat.lt_of_le_of_lt (bnd_mono b hil) hb
    have hb0 : bnd b i < 64 := Nat.lt_of_le_of_lt (bnd_le b i) hb1
    have hal : h1.abs.rows.length < 64 := by rw [abs_len]; exact Nat.lt_of_le_of_lt iv1.rl hb0
    have hcl : h1.abs.casts.length < 100000 := Nat.lt_of_le_of_lt iv1.clen (by omega)
    have e0 : ds.set jc (some (.int c)) = (ds.set jc (some (.int c))).set jd none := by rw [List.set_comm _ _ njc.2.2.2.2, dd]
    refine go_asg (x := (h1.abs.deedV c ws).d) (s_deed (K := K) (c := c) (ws := ws) r1.sa hal iv1.c0 hws hcl (ev_var (i := jc) (by rw [List.getElem?_set_self lc.1])) (ev_var (i := js) (by rw [List.getElem?_set_ne njc.2.1]; exact dq)) (by rw [e0]; exact hw c none H2)) ?_
    have hmem := word_ok hws c
    refine go_both (dd := h1.abs.deedV c ws) (r1.run iv1 cb1) hb1 (okW_deed h1.abs c (okw _ hmem)) (deed_okAt h1 c _) (ea_cons (ev_var (i := jh) (by rw [List.getElem?_set_ne njc.2.2.1, List.getElem?_set_ne njc.1]; exact dh)) (ea_cons (ev_var (i := jd) (by rw [List.getElem?_set_self (by rw [List.length_set]; exact lc.2)])) ea_nil)) (fun H' => ea_cons (ev_var (i := js) (by rw [List.getElem?_set_ne njc.2.2.2.1, List.getElem?_set_ne njc.2.1]; exact dq)) (ea_cons (ev_var (i := jd) (by rw [List.getElem?_set_self (by rw [List.length_set]; exact lc.2)])) ea_nil)) (pset jd _ _ (Deed.pure _) (pset jc _ _ rfl pe)) fun d h2 H3 F3 G3 σ ht r3 fr3 n3 => ?_
    refine hN (h2, F3, G3) σ H3 ⟨r3.two, r3.iv, r3.cb, st h1 (bnd b i) c _ d h2 hmem iv1 hb0 hI1 ht, hl1, e1, hv1⟩ ?_
    have n4 := (n3.forget jd).forget jc
    rw [List.set_set, List.set_comm _ _ njc.2.2.2.2, List.set_set, List.set_comm _ _ njc.2.2.2.2.symm, dc, dd] at n4
    exact n4
  · obtain ⟨h1, F1, G1⟩ := s
    obtain ⟨r1, iv1, cb1, hI1, hl1, e1, hv1⟩ := ps
    dsimp only at r1 iv1 cb1 hI1 ⊢
    have fr : Fr (fp p F ++ sfp q G) H H2 := Fr.ex_trans e1 r1.fr
    have nw : NewL H (fp p F ++ sfp q G) (fp p F1 ++ sfp q G1) := fun c hc => by
      rcases r1.nw c hc with z | z
      · exact .inl z
      · exact .inr (e1.free z)
    exact k h1 H2 F1 G1 ⟨r1.ha, r1.sa, r1.ap, iv1, Fr.transL r.fr r.nw fr, r.nw.trans r.fr nw, cb1⟩ hI1 fr
end
end Cs
set_option Elab.async false
set_option linter.all false
set_option maxRecDepth 100000
set_option maxHeartbeats 4000000
namespace Cs
open PySem PySem.Spec PyProof.Rows L2
/-! ### what a house tells, as readings -/
section
variable {K : PySem.W.Frag} {ds : List (Option D)} {H H' : Hp} {ta tb te tl tw tn : TE} {tr tr1 tr2 : TA} {tu tz : TS} {E : Ends} {X : XK} {p q : Addr} {F : Foot} {h : HS}
theorem e_things (x : HRd (hC K) H p F h) (hl : h.rows.length < 64) (ho : EvD ta ds H (.obj p)) : EvD (tMeth (hC K) "things" (sp_House_things K) [] X ta tNil) ds H (.tup h.things) := ev_meth ho x.ob rfl ea_nil (rsp_pr fun H' e => ⟨p, F, h, rfl, x.mono e, hl, rfl⟩)
theorem e_shelf (x : HRd (hC K) H p F h) (w : WF h) (ho : EvD ta ds H (.obj p)) : EvD (tMeth (hC K) "shelf" (sp_House_shelf K) [] X ta tNil) ds H (.tup h.shelf) := by
  have hsl := w.sl
  have hcl := w.cl
  exact ev_meth ho x.ob rfl ea_nil (rsp_pr fun H' e => ⟨p, F, h, rfl, x.mono e, hsl, by omega, fun z hz => keys_row (w.ca z hz), rfl⟩)
theorem e_day (x : HRd (hC K) H p F h) (ho : EvD ta ds H (.obj p)) : EvD (tMeth (hC K) "day" (sp_House_day K) [] X ta tNil) ds H (.int h.today) := ev_meth ho x.ob rfl ea_nil (rsp_pr fun H' e => ⟨p, F, h, rfl, x.mono e, rfl⟩)
theorem e_ties {n : Int} (x : HRd (hC K) H p F h) (hl : h.pairs.length < 100000) (ht : h.there n = true) (ho : EvD ta ds H (.obj p)) (hn : EvD tn ds H (.int n)) : EvD (tMeth (hC K) "ties" (sp_House_ties K) [] X ta (tCons tn tNil)) ds H (.tup ((h.ties n).map D.int)) := by
  have hx : EvX K X _ _ H (h.tiesR n) := ex_meth (m := "ties") (X := X) ho x.ob rfl (ea_cons hn ea_nil) (rspX_pr (Pre := fun H as r => ∃ p F h n, as = [.obj p, .int n] ∧ HRd (hC K) H p F h ∧ h.pairs.length < 100000 ∧ r = h.tiesR n) fun H' e => ⟨p, F, h, n, rfl, x.mono e, hl, rfl⟩)
  rw [show h.tiesR n = .ok (.tup ((h.ties n).map D.int)) by simp [HS.tiesR, ht]] at hx
  exact ev_of_x hx
theorem e_comers {n : Int} (x : HRd (hC K) H p F h) (hl : h.pairs.length < 100000) (ht : h.there n = true) (ho : EvD ta ds H (.obj p)) (hn : EvD tn ds H (.int n)) : EvD (tMeth (hC K) "comers" (sp_House_comers K) [] X ta (tCons tn tNil)) ds H (.tup ((h.comers n).map D.int)) := by
  have hx : EvX K X _ _ H (h.comersR n) := ex_meth (m := "comers") (X := X) ho x.ob rfl (ea_cons hn ea_nil) (rspX_pr (Pre := fun H as r => ∃ p F h n, as = [.obj p, .int n] ∧ HRd (hC K) H p F h ∧ h.pairs.length < 100000 ∧ r = h.comersR n) fun H' e => ⟨p, F, h, n, rfl, x.mono e, hl, rfl⟩)
  rw [show h.comersR n = .ok (.tup ((h.comers n).map D.int)) by simp [HS.comersR, ht]] at hx
  exact ev_of_x hx
theorem e_inner {n : Int} (x : HRd (hC K) H p F h) (w : WF h) (hc : n ∈ h.casts.map (·.1)) (ho : EvD ta ds H (.obj p)) (hn : EvD tn ds H (.int n)) : EvD (tMeth (hC K) "inner" (sp_House_inner K) [] X ta (tCons tn tNil)) ds H (.tup ((h.bundle n).filterMap fun k => (get h.rows k).map (rowD k))) := by
  have hsl := w.sl
  have hcl := w.cl
  have hx : EvX K X _ _ H (h.innerR n) := ex_meth (m := "inner") (X := X) ho x.ob rfl (ea_cons hn ea_nil) (rspX_pr (Pre := fun H as r => ∃ p F h n, as = [.obj p, .int n] ∧ HRd (hC K) H p F h ∧ h.shelved.length < 64 ∧ h.casts.length < 100000 ∧ (∀ k ∈ h.shelved.map (·.1), ∃ r, get h.rows k = some r) ∧ r = h.innerR n) fun H' e => ⟨p, F, h, n, rfl, x.mono e, hsl, by omega, fun k hk => keys_row (w.sub k hk), rfl⟩)
  rw [show h.innerR n = .ok (.tup ((h.bundle n).filterMap fun k => (get h.rows k).map (rowD k))) by unfold HS.innerR; rw [if_pos hc]] at hx
  exact ev_of_x hx
/-- x[-1] -/
theorem ev_neg {i : Int} (h : EvD ta ds H (.int i)) : EvD (tUn (rU fun i => .int (-i)) ta) ds H (.int (-i)) := fun σ H1 e n Q k => h σ H1 e n _ fun v H2 e2 hv => ⟨i, hv, k _ H2 e2 rfl⟩
theorem atI_last {α : Type} {xs : List α} {x : α} : atI (xs ++ [x]) (-1) = some x := by
  unfold atI ixN
  rw [if_neg (by omega)]
  have hl : (xs ++ [x]).length = xs.length + 1 := by simp
  rw [hl]
  rw [if_pos (by omega)]
  show (xs ++ [x])[_]? = _
  have e : (-1 + ((xs.length + 1 : Nat) : Int)).toNat = xs.length := by omega
  rw [e]
  simp
theorem op_ixLast {xs : List D} {d : D} : Op (rIxT K) H (.tup (xs ++ [d])) (.int (-1)) d := fun H1 _ x y hx hy Q k => by
  obtain ⟨a, vs, rfl, ha, il⟩ := hx
  have aux : ∀ {xs : List D} {vs : List V}, IsL H1 (xs ++ [d]) vs → ∃ us v, vs = us ++ [v] ∧ Is H1 d v := by
    intro xs
    induction xs with
    | nil =>
      rintro vs ⟨v, r, rfl, h1, h2⟩
      cases (show _ = _ from h2)
      exact ⟨[], v, rfl, h1⟩
    | cons z zs ih =>
      rintro vs ⟨v, r, rfl, h1, h2⟩
      obtain ⟨us, u, rfl, h3⟩ := ih h2
      exact ⟨v :: us, u, rfl, h3⟩
  obtain ⟨us, v, rfl, hv⟩ := aux il
  exact ⟨a, us ++ [v], _, v, rfl, hy, SqT.of ha, atI_last, k v H1 (Same.refl _) hv⟩
/-- xs.append(e), xs a list that stands at l -/
theorem go_appL {l : Addr} {vs : List V} {d : D} (hl : H l = some (.lst vs)) (hz : vs.length < 100000) (ho : EvD ta ds H (.obj l)) (he : EvD te ds H d) (pe : pureE ds = true)
    (k : ∀ u H1, Ex H H1 → Is H1 d u → Go tz ds (upd H1 l (.lst (vs ++ [u]))) E) : Go (tSeq (tDrop (tBM K "list" rAppend ta (tCons te tNil))) tz) ds H E := fun σ H1 e n =>
  ho σ H1 e n _ fun y H2 e2 hy => by
    cases (show _ = _ from hy)
    refine ⟨.inl ⟨rfl, vs, SqL.of ((e.trans e2) _ _ hl)⟩, he σ H2 (e.trans e2) (n.mono e2) _ fun u H3 e3 hu => ?_⟩
    have ee := (e.trans e2).trans e3
    have h3 := ee _ _ hl
    refine ⟨l, vs, u, rfl, rfl, h3, Nat.lt_trans hz (by decide), ?_⟩
    refine k u H3 ee hu σ _ (Same.refl _) (((n.mono e2).mono e3).tups (fun a ws q => ?_) pe)
    rw [upd_ne (ne_of q h3 (by intro z; cases z))]
    exact q
/-- .. as the last statement -/
theorem upd_frL {l : Addr} {o : HO} : Fr [l] H (upd H l o) := fun b u e n => by
  rw [upd_ne (fun (w : b = l) => n (by rw [w]; simp))]
  exact e
end
/-! ### the script, across what is written -/
def Scr (K : PySem.W.Frag) (H : Hp) (a : Addr) (xs : List V) (L : List Addr) : Prop := (∀ H', SqL K H' a xs) ∨ (SqL K H a xs ∧ H a ≠ none ∧ a ∉ L)
section
variable {K : PySem.W.Frag} {H H' : Hp} {a : Addr} {xs : List V} {L L' : List Addr}
theorem Scr.sq (s : Scr K H a xs L) : SqL K H a xs := by
  rcases s with s | s
  · exact s H
  · exact s.1
theorem Scr.of (h : SqL K H a xs) (hL : a ∈ L → H a = none) : Scr K H a xs L := by
  rcases h with h | h
  · refine .inr ⟨.inl h, ?_, fun m => ?_⟩
    · rcases h with h | ⟨o, h⟩ <;> (rw [h]; exact fun z => nomatch z)
    · have := hL m
      rcases h with h | ⟨o, h⟩ <;> (rw [h] at this; cases this)
  · exact .inl fun H' => .inr h
theorem Scr.fr (s : Scr K H a xs L) (r : Fr L H H') (nw : NewL H L L') : Scr K H' a xs L' := by
  rcases s with s | ⟨s, h1, h2⟩
  · exact .inl s
  · refine .inr ⟨SqL.frame s r fun m => absurd m h2, ?_, fun m => ?_⟩
    · cases e : H a with
      | none => exact absurd e h1
      | some o =>
        rw [r a o e h2]
        exact fun z => nomatch z
    · rcases nw a m with z | z
      · exact h2 z
      · exact h1 z
theorem Scr.ex (s : Scr K H a xs L) (e : Ex H H') : Scr K H' a xs L := s.fr (Fr.of_ex e) NewL.refl
theorem Scr.sub (s : Scr K H a xs L) (h : ∀ b ∈ L', b ∈ L) : Scr K H a xs L' := by
  rcases s with s | ⟨s, h1, h2⟩
  · exact .inl s
  · exact .inr ⟨s, h1, fun m => h2 (h a m)⟩
/-- with a new one -/
theorem Scr.new (s : Scr K H a xs L) {l : Addr} (hl : H l = none) (h : ∀ b ∈ L', b = l ∨ b ∈ L) : Scr K H a xs L' := by
  rcases s with s | ⟨s, h1, h2⟩
  · exact .inl s
  · refine .inr ⟨s, h1, fun m => ?_⟩
    rcases h a m with z | z
    · exact h1 (by rw [z]; exact hl)
    · exact h2 z
end
/-! ### things and the shelf, as data -/
theorem rowD_dpt (n : Int) (r : Row) : dpt 1 (rowD n r) = true := dpt_tup fun x hx => by
  simp only [List.mem_cons, List.not_mem_nil, or_false] at hx
  rcases hx with rfl | rfl | rfl | rfl
  · exact dpt_flat rfl
  · exact dpt_flat (oI_flat _)
  · exact dpt_flat rfl
  · exact dpt_flat (oS_flat _)
theorem things_dpt (h : HS) : dpt 2 (.tup h.things) = true := dpt_tup fun x hx => by
  obtain ⟨n, r, rfl, _⟩ := things_row hx
  exact rowD_dpt n r
theorem things_pure (h : HS) : (D.tup h.things).pure = true := pureL_of fun x hx => by
  obtain ⟨n, r, rfl, _⟩ := things_row hx
  exact rowD_pure n r
theorem shelf_dpt {h : HS} (w : WF h) : dpt 2 (.tup h.shelf) = true := by
  rw [shelf_map w]
  refine dpt_tup fun x hx => ?_
  obtain ⟨q, _, rfl⟩ := List.mem_map.mp hx
  refine dpt_tup fun y hy => ?_
  simp only [List.mem_cons, List.not_mem_nil, or_false] at hy
  rcases hy with rfl | rfl | rfl | rfl <;> exact dpt_flat rfl
theorem pairs_dpt (ps : List (Int × Int)) : dpt 2 (.lst (ps.map pairD)) = true := dpt_lst fun x hx => by
  obtain ⟨q, _, rfl⟩ := List.mem_map.mp hx
  refine dpt_tup fun y hy => ?_
  simp only [List.mem_cons, List.not_mem_nil, or_false] at hy
  rcases hy with rfl | rfl <;> exact dpt_flat rfl
theorem ints_dptT (ns : List Int) : dpt 1 (.tup (ns.map D.int)) = true := dpt_tup fun x hx => by
  obtain ⟨q, _, rfl⟩ := List.mem_map.mp hx
  exact dpt_flat rfl
theorem sortI_filter (c : Int → Bool) (ns : List Int) : sortI (ns.filter c) = (sortI ns).filter c :=
  sorted_unique ((sortI_perm _).trans ((sortI_perm ns).symm.filter c)) (sortI_pw _) ((sortI_pw ns).filter c)
def rowAt' (h : HS) (n : Int) : Row := (get h.rows n).getD ⟨none, "", none⟩
def HS.thereL (h : HS) : List Int := (sortI h.keys).filter h.there
theorem things_map (h : HS) : h.things = h.thereL.map fun n => rowD n (rowAt' h n) := by
  unfold HS.things HS.thereL
  rw [← filterMap_if]
  refine fm_congr fun n _ => ?_
  by_cases c : h.there n = true
  · obtain ⟨r, hr⟩ := there_row c
    rw [if_pos c, if_pos c, hr]
    unfold rowAt'
    rw [hr]
    rfl
  · rw [if_neg c, if_neg c]
theorem lose_keysL (h : HS) (n : Int) : (h.loseH n).keys = h.keys.filter fun k => decide (k ∉ h.bundle n) := by
  show (without h.rows (h.bundle n)).map (·.1) = _
  unfold without HS.keys
  rw [List.filter_map]
  rfl
theorem thereL_lose (h : HS) (n : Int) : (h.loseH n).thereL = h.thereL := by
  unfold HS.thereL
  rw [lose_keysL, sortI_filter, List.filter_filter]
  refine List.filter_congr fun k hk => ?_
  unfold HS.there
  by_cases c : k ∈ h.bundle n
  · rw [decide_eq_false (fun z => z c), mem_bundle.mp c]
    simp
  · rw [decide_eq_true c, lose_sh c, lose_rowN c]
    simp
theorem mem_thereL {h : HS} {k : Int} : k ∈ h.thereL ↔ h.there k = true := by
  unfold HS.thereL
  rw [List.mem_filter, mem_sortI]
  refine ⟨fun z => z.2, fun z => ⟨?_, z⟩⟩
  obtain ⟨r, hr⟩ := there_row z
  exact get_keyI hr
theorem things_lose (h : HS) (n : Int) : (h.loseH n).things = h.things := by
  rw [things_map, things_map, thereL_lose]
  refine List.map_congr_left fun k hk => ?_
  have ht := mem_thereL.mp hk
  have c : k ∉ h.bundle n := fun q => by rw [mem_bundle, there_none ht] at q; cases q
  unfold rowAt'
  rw [lose_rowN c]
theorem things_loseAll : ∀ (ns : List Int) (h : HS), (loseAll h ns).things = h.things
  | [], _ => rfl
  | n :: ns, h => (things_loseAll ns (h.loseH n)).trans (things_lose h n)
theorem casts_loseAll : ∀ (ns : List Int) (h : HS), (loseAll h ns).casts = h.casts.filter fun q => decide (q.1 ∉ ns)
  | [], h => by
    show h.casts = _
    rw [List.filter_eq_self.mpr]
    intro q _
    simp
  | n :: ns, h => by
    show (loseAll (h.loseH n) ns).casts = _
    rw [casts_loseAll ns (h.loseH n)]
    show (h.casts.filter fun z => decide (z.1 ≠ n)).filter _ = _
    rw [List.filter_filter]
    refine List.filter_congr fun q _ => ?_
    by_cases c1 : q.1 = n <;> by_cases c2 : q.1 ∈ ns <;> simp [c1, c2]
theorem keep_loseAll : ∀ (ns : List Int) (h : HS), (loseAll h ns).keep = h.keep ∧ (loseAll h ns).today = h.today ∧ (loseAll h ns).room = h.room
  | [], _ => ⟨rfl, rfl, rfl⟩
  | n :: ns, h => keep_loseAll ns (h.loseH n)
end Cs
set_option Elab.async false
set_option linter.all false
set_option maxRecDepth 100000
set_option maxHeartbeats 4000000
namespace Cs
open PySem PySem.Spec PyProof.Rows L2
/-! ### data whose lists stand at certain places -/
mutual
def IsO (N : Addr → Prop) (H : Hp) : D → V → Prop
  | .non, v => v = .non
  | .bl b, v => v = .bl b
  | .int i, v => v = .int i
  | .str x, v => v = .str x
  | .obj a, v => v = .ref a
  | .tup ds, v => ∃ a vs, v = .ref a ∧ H a = some (.tup vs) ∧ IsOL N H ds vs
  | .lst ds, v => ∃ a vs, v = .ref a ∧ N a ∧ H a = some (.lst vs) ∧ IsOL N H ds vs
def IsOL (N : Addr → Prop) (H : Hp) : List D → List V → Prop
  | [], vs => vs = []
  | d :: ds, vs => ∃ v r, vs = v :: r ∧ IsO N H d v ∧ IsOL N H ds r
end
mutual
theorem IsO.is {N : Addr → Prop} {H : Hp} : ∀ {d : D} {v : V}, IsO N H d v → Is H d v
  | .non, _, h => h
  | .bl _, _, h => h
  | .int _, _, h => h
  | .str _, _, h => h
  | .obj _, _, h => h
  | .tup _, _, ⟨a, vs, e, q, r⟩ => ⟨a, vs, e, q, IsOL.is r⟩
  | .lst _, _, ⟨a, vs, e, _, q, r⟩ => ⟨a, vs, e, q, IsOL.is r⟩
theorem IsOL.is {N : Addr → Prop} {H : Hp} : ∀ {ds : List D} {vs : List V}, IsOL N H ds vs → IsL H ds vs
  | [], _, h => h
  | _ :: _, _, ⟨v, r, e, h, t⟩ => ⟨v, r, e, IsO.is h, IsOL.is t⟩
end
mutual
theorem IsO.imp {N N' : Addr → Prop} {H H' : Hp} (ht : ∀ a vs, H a = some (.tup vs) → H' a = some (.tup vs)) (hl : ∀ a vs, N a → H a = some (.lst vs) → N' a ∧ H' a = some (.lst vs)) : ∀ {d : D} {v : V}, IsO N H d v → IsO N' H' d v
  | .non, _, h => h
  | .bl _, _, h => h
  | .int _, _, h => h
  | .str _, _, h => h
  | .obj _, _, h => h
  | .tup _, _, ⟨a, vs, e, q, r⟩ => ⟨a, vs, e, ht a vs q, IsOL.imp ht hl r⟩
  | .lst _, _, ⟨a, vs, e, n, q, r⟩ => ⟨a, vs, e, (hl a vs n q).1, (hl a vs n q).2, IsOL.imp ht hl r⟩
theorem IsOL.imp {N N' : Addr → Prop} {H H' : Hp} (ht : ∀ a vs, H a = some (.tup vs) → H' a = some (.tup vs)) (hl : ∀ a vs, N a → H a = some (.lst vs) → N' a ∧ H' a = some (.lst vs)) : ∀ {ds : List D} {vs : List V}, IsOL N H ds vs → IsOL N' H' ds vs
  | [], _, h => h
  | _ :: _, _, ⟨v, r, e, h, t⟩ => ⟨v, r, e, IsO.imp ht hl h, IsOL.imp ht hl t⟩
end
theorem IsO.mono {N : Addr → Prop} {H H' : Hp} {d : D} {v : V} (e : Ex H H') (h : IsO N H d v) : IsO N H' d v := h.imp (fun a vs q => e _ _ q) fun a vs n q => ⟨n, e _ _ q⟩
theorem IsOL.mono {N : Addr → Prop} {H H' : Hp} {d : List D} {v : List V} (e : Ex H H') (h : IsOL N H d v) : IsOL N H' d v := h.imp (fun a vs q => e _ _ q) fun a vs n q => ⟨n, e _ _ q⟩
/-- what is out of L stays where L alone is written -/
theorem IsO.step {L L' : List Addr} {H H' : Hp} {d : D} {v : V} (h : IsO (· ∉ L) H d v) (r : Fr L H H') (nw : NewL H L L') (tp : ∀ a vs, H a = some (.tup vs) → H' a = some (.tup vs)) : IsO (· ∉ L') H' d v :=
  h.imp tp fun a vs n q => by
    refine ⟨fun m => ?_, r a _ q n⟩
    rcases nw a m with z | z
    · exact n z
    · rw [q] at z
      cases z
theorem IsO.out {L : List Addr} {Hb H : Hp} {d : D} {v : V} (h : IsO (fun a => Hb a = none) H d v) (hL : ∀ b ∈ L, Hb b ≠ none) : IsO (· ∉ L) H d v := h.imp (fun _ _ q => q) fun a vs n q => ⟨fun m => hL a m n, q⟩
mutual
theorem Is.o {N : Addr → Prop} {H : Hp} : ∀ {d : D} {v : V}, d.pure = true → Is H d v → IsO N H d v
  | .non, _, _, h => h
  | .bl _, _, _, h => h
  | .int _, _, _, h => h
  | .str _, _, _, h => h
  | .obj _, _, _, h => h
  | .tup _, _, p, ⟨a, vs, e, q, r⟩ => ⟨a, vs, e, q, IsL.o p r⟩
  | .lst _, _, p, _ => by cases (show false = true from p)
theorem IsL.o {N : Addr → Prop} {H : Hp} : ∀ {ds : List D} {vs : List V}, D.pureL ds = true → IsL H ds vs → IsOL N H ds vs
  | [], _, _, h => h
  | _ :: _, _, p, ⟨v, r, e, h, t⟩ => by
    have p' := Bool.and_eq_true_iff.mp (show (_ && _) = true from p)
    exact ⟨v, r, e, Is.o p'.1 h, IsL.o p'.2 t⟩
end
/-- evaluated with new lists alone -/
def EvN (Hb : Hp) (te : TE) (ds : List (Option D)) (H : Hp) (d : D) : Prop := ∀ σ H1, Ex H H1 → EnvOk H1 σ ds → ∀ Q : VK, (∀ v H2, Ex H1 H2 → IsO (fun a => Hb a = none) H2 d v → Q v H2) → te σ H1 Q
def EvAN (Hb : Hp) (ta : TA) (ds : List (Option D)) (H : Hp) (as : List D) : Prop := ∀ σ H1, Ex H H1 → EnvOk H1 σ ds → ∀ Q : List V → Hp → Prop, (∀ vs H2, Ex H1 H2 → IsOL (fun a => Hb a = none) H2 as vs → Q vs H2) → ta σ H1 Q
section
variable {K : PySem.W.Frag} {ds : List (Option D)} {H Hb H' : Hp} {ta tb te tl tw tn : TE} {tr tr1 tr2 : TA} {tt : TT} {tu tz : TS} {E : Ends} {X : XK} {p q : Addr} {F : Foot} {h : HS} {ι : Type} {d : D} {j : Nat}
theorem en_of (h : EvD te ds H d) (pd : d.pure = true) : EvN Hb te ds H d := fun σ H1 e n Q k => h σ H1 e n Q fun v H2 e2 hv => k v H2 e2 (hv.o pd)
theorem en_lst {xs : List D} (hb : Ex Hb H) (h : EvL te ds H xs) (px : D.pureL xs = true) : EvN Hb te ds H (.lst xs) := fun σ H1 e n Q k => h σ H1 e n Q fun l vs H2 hl e2 hv il => k _ H2 e2 ⟨l, vs, rfl, (hb.trans e).free hl, hv, il.o px⟩
theorem en_var {i : Nat} {l : Addr} {vs : List V} {xs : List D} (h : ds[i]? = some (some (.obj l))) (hn : Hb l = none) (hl : H l = some (.lst vs)) (il : IsL H xs vs) (px : D.pureL xs = true) : EvN Hb (tVar i) ds H (.lst xs) := fun σ H1 e n Q k => by
  obtain ⟨v, g, q⟩ := n.get h
  cases (show _ = _ from q)
  exact ⟨_, g, k _ H1 (Same.refl _) ⟨l, vs, rfl, hn, e _ _ hl, (il.mono e).o px⟩⟩
theorem en_nil : EvAN Hb tNil ds H [] := fun _ H1 _ _ _ k => k [] H1 (Same.refl _) rfl
theorem en_cons {as : List D} (h : EvN Hb ta ds H d) (t : EvAN Hb tr ds H as) : EvAN Hb (tCons ta tr) ds H (d :: as) := fun σ H1 e n Q k =>
  h σ H1 e n _ fun x H2 e2 hx => t σ H2 (e.trans e2) (n.mono e2) _ fun xs H3 e3 hxs => k _ H3 (e2.trans e3) ⟨x, xs, rfl, hx.mono e3, hxs⟩
theorem en_tup {as : List D} (h : EvAN Hb tr ds H as) (hl : as.length ≤ 1000000) : EvN Hb (tTup tr) ds H (.tup as) := fun σ H1 e n Q k =>
  h σ H1 e n _ fun vs H2 e2 hv => ⟨Nat.le_trans (by rw [hv.is.len]; exact hl) (by decide), fun p hp => k _ _ (e2.trans (Ex.new hp)) ⟨p, vs, rfl, upd_same, hv.mono (Ex.new hp)⟩⟩
/-- [e for x in (a tuple) if t]: a new list -/
theorem el_lcT {xs : List D} (f : D → Option D) (hl : EvD tl ds H (.tup xs)) (hz : xs.length < 1000000) (ht : ∀ x ∈ xs, EvB tt (ds.set j (some x)) H (f x).isSome)
    (he : ∀ x ∈ xs, ∀ y, f x = some y → EvD te (ds.set j (some x)) H y ∧ y.pure = true) : EvL (tLc (iTup K tl) (gName j) tt te [j]) ds H (xs.filterMap f) := fun σ H0 e n Q q =>
  hl σ H0 e n _ fun v H1 e1 hv => by
    obtain ⟨a, vs, rfl, ha, hvs⟩ := hv
    refine ⟨a, rfl, ⟨vs, SqT.of ha⟩, fun p hp => lc_tup (xs := vs) (fun i H' => Acc H1 p ((xs.take i).filterMap f) H') (Acc.zero hp) (fun i H' _ A => SqT.of (A.2.1 _ _ ha)) (fun i x H' hi A => ?_) fun H' A => ?_⟩
    · obtain ⟨d, hd, hx⟩ := hvs.getV hi
      refine ⟨by simp [wipe], ?_⟩
      rw [fm_take_succ hd]
      have hm : d ∈ xs := List.mem_of_getElem? hd
      refine lc_turn (ds2 := ds.set j (some d)) (H0 := H) (e.trans e1) A ?_ ?_ (ht d hm) (he d hm)
      · simp only [wipe, List.set_set]
        exact ((n.mono e1).mono A.2.1).set (hx.mono A.2.1) j
      · have := filterMap_len f (xs.take i)
        have := List.length_take_le' i xs
        omega
    · obtain ⟨hn, ex, acc, c, d, _⟩ := A
      rw [hvs.len, List.take_length] at d
      exact q p acc H' (e1.free hn) (e1.trans ex) c d
/-- for i, x in enumerate(a new list of numbers): .. -/
theorem go_forEn {ns : List Int} {j1 j2 : Nat} (hl : EvL tl ds H (ns.map D.int)) (P : Addr → Hp → Nat → ι → Hp → Prop) (env : ι → List (Option D)) (i0 : ι) (he : env i0 = ds) (h0 : ∀ l H1, H l = none → Ex H H1 → H1 l = some (.lst (ns.map V.int)) → P l H1 0 i0 H1) (hk : ∀ l H1 i s H', P l H1 i s H' → H' l = some (.lst (ns.map V.int)))
    (hs : ∀ l H1 i n s H2, ns[i]? = some n → P l H1 i s H2 → ∀ N : L2.St → Hp → Prop, (∀ s' σ H3, P l H1 (i + 1) s' H3 → EnvOk H3 σ (env s') → N σ H3) → Go tu (((env s).set j1 (some (.int (i : Int)))).set j2 (some (.int n))) H2 { E with nx := N, ct := N, bk := tz E })
    (hd : ∀ l H1 s H2, P l H1 ns.length s H2 → Go tz (env s) H2 E) : Go (tSeq (tFor (iEnum K (tCons tl tNil)) (gTup K 2 (gCons (gName j1) (gCons (gName j2) gNil))) tu) tz) ds H E := fun σ H1 e n =>
  hl σ H1 e n _ fun l vs H2 hl1 e2 hv il => by
    have hvs := il.ints
    subst hvs
    have p0 := h0 l H2 (e.free hl1) (e.trans e2) hv
    refine ⟨l, ns.map V.int, rfl, SqL.of hv, for_it walk_enum (fun i σ' H' => ∃ s, P l H2 i s H' ∧ EnvOk H' σ' (env s)) ⟨i0, p0, by rw [he]; exact n.mono e2⟩ (fun i σ' H' _ p => let ⟨_, p, _⟩ := p; SqL.of (hk _ _ _ _ _ p)) (fun i x σ' H' H3 hi p y => ?_) fun σ' H' p => ?_⟩
    · obtain ⟨s, ps, n'⟩ := p
      obtain ⟨T, x1, y1, rfl, hT, rfl, hx1, hy1⟩ := y
      cases hx1
      have hy1 : (ns.map V.int)[i]? = some y1 := hy1
      rw [List.getElem?_map] at hy1
      obtain ⟨m, hm, rfl⟩ : ∃ m, ns[i]? = some m ∧ V.int m = y1 := by
        cases e3 : ns[i]? with
        | none => rw [e3] at hy1; cases hy1
        | some m => rw [e3] at hy1; exact ⟨m, rfl, Option.some.inj hy1⟩
      have eT : Ex H' (upd H' T (.tup [.int (i : Nat), .int m])) := Ex.new hT
      refine ⟨T, _, rfl, SqT.of upd_same, rfl, _, _, rfl, _, _, rfl, rfl, ?_⟩
      exact hs l H2 i m s H' hm ps _ (fun s' σ2 H3 p3 n3 => ⟨s', p3, n3⟩) _ _ eT (((n'.mono eT).set (d := .int (i : Int)) (v := .int (i : Nat)) rfl j1).set (d := .int m) (v := .int m) rfl j2)
    · obtain ⟨s, ps, n'⟩ := p
      rw [List.length_map] at ps
      exact hd l H2 s H' ps σ' H' (Same.refl _) n'
end
/-! ### opened by hand -/
section
variable {σ : L2.St} {H : Hp} {t u : TT} {tu tw : TS} {E : Ends} {ta tb te : TE} {r : R2} {Qb : Bool → Hp → Prop} {Q : VK}
theorem if1 (h : t σ H fun b H' => if b = true then tu E σ H' else tw E σ H') : tIfS t tu tw E σ H := h
theorem or1 (h : t σ H fun b H' => if b = true then Qb true H' else u σ H' Qb) : tOr t u σ H Qb := h
theorem test1 (h : te σ H fun v H' => ∃ b, v = .bl b ∧ Qb b H') : tTest te σ H Qb := h
theorem op1 (h : ta σ H fun x H1 => tb σ H1 fun y H2 => r x y H2 Q) : tOp r ta tb σ H Q := h
end
/-! ### a deed's word -/
def Deed.word : Deed → Str
  | .make _ _ _ => "make" | .rename _ _ => "rename" | .move _ _ => "move" | .copy _ _ => "copy" | .write _ _ => "write" | .tie _ _ => "tie" | .untie _ _ => "untie"
  | .back _ => "back" | .gone _ => "gone" | .cast _ => "cast" | .empty => "empty" | .next_day => "next_day"
theorem Deed.head (dd : Deed) : ∃ xs, dd.d = .tup (.str dd.word :: xs) := by cases dd <;> exact ⟨_, rfl⟩
theorem word_copy : ∀ {dd : Deed}, dd.word = "copy" → ∃ n par, dd = .copy n par
  | .copy n par, _ => ⟨n, par, rfl⟩
  | .make _ _ _, e => absurd (show ("make" : Str) = "copy" from e) (by decide +kernel)
  | .rename _ _, e => absurd (show ("rename" : Str) = "copy" from e) (by decide +kernel)
  | .move _ _, e => absurd (show ("move" : Str) = "copy" from e) (by decide +kernel)
  | .write _ _, e => absurd (show ("write" : Str) = "copy" from e) (by decide +kernel)
  | .tie _ _, e => absurd (show ("tie" : Str) = "copy" from e) (by decide +kernel)
  | .untie _ _, e => absurd (show ("untie" : Str) = "copy" from e) (by decide +kernel)
  | .back _, e => absurd (show ("back" : Str) = "copy" from e) (by decide +kernel)
  | .gone _, e => absurd (show ("gone" : Str) = "copy" from e) (by decide +kernel)
  | .cast _, e => absurd (show ("cast" : Str) = "copy" from e) (by decide +kernel)
  | .empty, e => absurd (show ("empty" : Str) = "copy" from e) (by decide +kernel)
  | .next_day, e => absurd (show ("next_day" : Str) = "copy" from e) (by decide +kernel)
end Cs
set_option Elab.async false
set_option linter.all false
set_option maxRecDepth 100000
set_option maxHeartbeats 4000000
namespace Cs
open PySem PySem.Spec PyProof.Rows L2
/-! ### names are unlike within a parent, there or in one bundle -/
structure NInv (h : HS) : Prop where
  uq : ∀ j k rj rk, get h.rows j = some rj → get h.rows k = some rk → get h.shelved j = get h.shelved k → rj.par = rk.par → rj.name = rk.name → j = k
  bp : ∀ k m r, get h.shelved k = some m → k ≠ m → get h.rows k = some r → ∃ p, r.par = some p
theorem mem_namesIn {h : HS} {par but : Option Int} {nm : Str} : nm ∈ h.namesIn par but ↔ ∃ k r, h.there k = true ∧ some k ≠ but ∧ get h.rows k = some r ∧ r.par = par ∧ r.name = nm := by
  unfold HS.namesIn
  rw [List.mem_filterMap]
  constructor
  · rintro ⟨k, hk, e⟩
    obtain ⟨_, h2⟩ := List.mem_filter.mp hk
    have h3 := Bool.and_eq_true_iff.mp h2
    cases hr : get h.rows k with
    | none => rw [hr] at e; cases e
    | some r =>
      rw [hr] at e
      have e' : (if r.par = par then some r.name else none) = some nm := e
      split at e'
      · rename_i c
        cases e'
        exact ⟨k, r, h3.1, of_decide_eq_true h3.2, hr, c, rfl⟩
      · cases e'
  · rintro ⟨k, r, h1, h2, h3, h4, h5⟩
    refine ⟨k, List.mem_filter.mpr ⟨get_keyI h3, by rw [h1, decide_eq_true h2]; rfl⟩, ?_⟩
    rw [h3]
    show (if r.par = par then some r.name else none) = some nm
    rw [if_pos h4, h5]
theorem there_of {h : HS} {k : Int} {r : Row} (hr : get h.rows k = some r) (hs : get h.shelved k = none) : h.there k = true := shelved_there (get_keyI hr) hs
theorem names_ne {h : HS} {par : Option Int} {nm : Str} {but : Option Int} (hn : nm ∉ h.namesIn par but) {k : Int} {r : Row} (hr : get h.rows k = some r) (hs : get h.shelved k = none) (hb : some k ≠ but) (hp : r.par = par) : r.name ≠ nm := fun e => hn (mem_namesIn.mpr ⟨k, r, there_of hr hs, hb, hr, hp, e⟩)
theorem ninv_empty (keep room : Int) : NInv (HS.empty keep room) := ⟨fun j k rj rk hj => (by cases hj), fun k m r hk => (by cases hk)⟩
theorem NInv.new {h : HS} {b : Nat} (nv : NInv h) (i : HInv h b) {par : Option Int} {nm : Str} {tx : Option Str} (hn : nm ∉ h.namesIn par none) : NInv (h.new par nm tx) := by
  obtain ⟨f1, f2⟩ := i.new_free (n := h.count + 1) (by omega)
  have hg : ∀ {k : Int} {r : Row}, get (h.new par nm tx).rows k = some r → (k = h.count + 1 ∧ r = ⟨par, nm, tx⟩) ∨ (k ≠ h.count + 1 ∧ get h.rows k = some r) := fun {k r} q => by
    have q' : (if k = h.count + 1 then some ⟨par, nm, tx⟩ else get h.rows k) = some r := by rw [← get_put]; exact q
    by_cases e : k = h.count + 1
    · rw [if_pos e] at q'
      cases q'
      exact .inl ⟨e, rfl⟩
    · rw [if_neg e] at q'
      exact .inr ⟨e, q'⟩
  refine ⟨fun j k rj rk hj hk hs hp hnm => ?_, fun k m r hk hne hr => ?_⟩
  · have hs' : get h.shelved j = get h.shelved k := hs
    rcases hg hj with ⟨rfl, rfl⟩ | ⟨_, hj'⟩
    · rcases hg hk with ⟨rfl, rfl⟩ | ⟨_, hk'⟩
      · rfl
      · rw [f2] at hs'
        exact absurd hnm.symm (names_ne hn hk' hs'.symm (fun z => nomatch z) hp.symm)
    · rcases hg hk with ⟨rfl, rfl⟩ | ⟨_, hk'⟩
      · rw [f2] at hs'
        exact absurd hnm (names_ne hn hj' hs' (fun z => nomatch z) hp)
      · exact nv.uq j k rj rk hj' hk' hs' hp hnm
  · have hk' : get h.shelved k = some m := hk
    rcases hg hr with ⟨rfl, rfl⟩ | ⟨_, hr'⟩
    · rw [f2] at hk'
      cases hk'
    · exact nv.bp k m r hk' hne hr'
/-- a row that is there is put anew -/
theorem NInv.reput {h : HS} (nv : NInv h) {n : Int} {r' : Row} (hs0 : get h.shelved n = none) (hn : ∀ k rk, k ≠ n → get h.rows k = some rk → get h.shelved k = none → rk.par = r'.par → rk.name ≠ r'.name) : NInv { h with rows := put h.rows n r' } := by
  have hg : ∀ {k : Int} {q : Row}, get (put h.rows n r') k = some q → (k = n ∧ q = r') ∨ (k ≠ n ∧ get h.rows k = some q) := fun {k q} z => by
    rw [get_put] at z
    by_cases e : k = n
    · rw [if_pos e] at z
      cases z
      exact .inl ⟨e, rfl⟩
    · rw [if_neg e] at z
      exact .inr ⟨e, z⟩
  refine ⟨fun j k rj rk hj hk hs hp hnm => ?_, fun k m r hk hne hr => ?_⟩
  · have hs' : get h.shelved j = get h.shelved k := hs
    rcases hg hj with ⟨rfl, rfl⟩ | ⟨cj, hj'⟩
    · rcases hg hk with ⟨rfl, rfl⟩ | ⟨ck, hk'⟩
      · rfl
      · exact absurd hnm.symm (hn k rk ck hk' (hs'.symm.trans hs0) hp.symm)
    · rcases hg hk with ⟨rfl, rfl⟩ | ⟨ck, hk'⟩
      · exact absurd hnm (hn j rj cj hj' (hs'.trans hs0) hp)
      · exact nv.uq j k rj rk hj' hk' hs' hp hnm
  · have hk' : get h.shelved k = some m := hk
    rcases hg hr with ⟨rfl, rfl⟩ | ⟨_, hr'⟩
    · rw [hs0] at hk'
      cases hk'
    · exact nv.bp k m r hk' hne hr'
theorem NInv.lose {h : HS} (nv : NInv h) (n : Int) : NInv (h.loseH n) := by
  refine ⟨fun j k rj rk hj hk hs hp hnm => ?_, fun k m r hk hne hr => ?_⟩
  · obtain ⟨cj, hj'⟩ := lose_row hj
    obtain ⟨ck, hk'⟩ := lose_row hk
    rw [lose_sh cj, lose_sh ck] at hs
    exact nv.uq j k rj rk hj' hk' hs hp hnm
  · obtain ⟨ck, hk'⟩ := lose_row hr
    rw [lose_sh ck] at hk
    exact nv.bp k m r hk hne hk'
theorem NInv.loseAll : ∀ (ns : List Int) {h : HS}, NInv h → NInv (loseAll h ns)
  | [], _, nv => nv
  | n :: ns, h, nv => NInv.loseAll ns (nv.lose n)
theorem NInv.cast {h : HS} {b : Nat} (nv : NInv h) (i : HInv h b) {n : Int} (ht : h.there n = true) : NInv (h.castH n) := by
  have hnc : ∀ k, get h.shelved k ≠ some n := fun k q => by
    have h1 := i.cr n (i.cs k n q)
    rw [there_none ht] at h1
    cases h1
  refine ⟨fun j k rj rk hj hk hs hp hnm => ?_, fun k m r hk hne hr => ?_⟩
  · rw [cast_sh, cast_sh] at hs
    by_cases cj : j ∈ h.wholeL n
    · by_cases ck : k ∈ h.wholeL n
      · exact nv.uq j k rj rk hj hk ((there_none (Desc.there ht ((mem_whole ht).mp cj))).trans (there_none (Desc.there ht ((mem_whole ht).mp ck))).symm) hp hnm
      · rw [if_pos cj, if_neg ck] at hs
        exact absurd hs.symm (hnc k)
    · by_cases ck : k ∈ h.wholeL n
      · rw [if_neg cj, if_pos ck] at hs
        exact absurd hs (hnc j)
      · rw [if_neg cj, if_neg ck] at hs
        exact nv.uq j k rj rk hj hk hs hp hnm
  · rw [cast_sh] at hk
    by_cases ck : k ∈ h.wholeL n
    · rw [if_pos ck] at hk
      cases hk
      have d := (mem_whole ht).mp ck
      cases d with
      | self => exact absurd rfl hne
      | step hr' hp' _ _ =>
        have hr'' : get h.rows k = some r := hr
        rw [hr'] at hr''
        cases hr''
        exact ⟨_, hp'⟩
    · rw [if_neg ck] at hk
      exact nv.bp k m r hk hne hr
theorem free_notin (name : Str) {taken : List Str} (hl : taken.length < 70) : freeV name taken ∉ taken := by
  by_cases h0 : name ∈ taken
  · obtain ⟨i, hi, hf⟩ := cand_free name hl
    have hx : ∃ i, (i ≤ taken.length ∧ cand name (i + 2) ∉ taken) ∧ ∀ j, j < i → cand name (j + 2) ∈ taken := by
      induction i using Nat.strongRecOn with
      | _ i ih =>
        by_cases c : ∃ j, j < i ∧ cand name (j + 2) ∉ taken
        · obtain ⟨j, h1, h2⟩ := c
          exact ih j h1 (by omega) h2
        · exact ⟨i, ⟨hi, hf⟩, fun j hj => Classical.byContradiction fun q => c ⟨j, hj, q⟩⟩
    obtain ⟨i, ⟨h1, h2⟩, h3⟩ := hx
    rw [free_found h0 h1 h3 h2]
    exact h2
  · rw [free_self h0]
    exact h0
theorem NInv.back {h : HS} {b : Nat} (nv : NInv h) (i : HInv h b) (hb : b < 64) {n : Int} {r : Row} (hc : n ∈ h.casts.map (·.1)) (hr : get h.rows n = some r) : NInv (h.backH n r) := by
  have hsn : get h.shelved n = some n := i.cr n hc
  have nl : (h.namesIn (h.backPar r.par) none).length < 70 := by
    have := names_len h (h.backPar r.par) none
    have := i.rl
    omega
  have hfree := free_notin r.name nl
  have hpar : ∀ {p : Int}, h.backPar r.par = some p → get h.shelved p = none := fun {p} e => by
    unfold HS.backPar at e
    split at e
    · cases e
    · rename_i c
      rw [e] at c
      exact there_none (by simpa [HS.goneP] using c)
  have hg : ∀ {k : Int} {q : Row}, get (h.backH n r).rows k = some q → (k = n ∧ q = ⟨h.backPar r.par, freeV r.name (h.namesIn (h.backPar r.par) none), r.text⟩) ∨ (k ≠ n ∧ get h.rows k = some q) := fun {k q} z => by
    have z' : (if k = n then some ⟨h.backPar r.par, freeV r.name (h.namesIn (h.backPar r.par) none), r.text⟩ else get h.rows k) = some q := by rw [← get_put]; exact z
    by_cases e : k = n
    · rw [if_pos e] at z'
      cases z'
      exact .inl ⟨e, rfl⟩
    · rw [if_neg e] at z'
      exact .inr ⟨e, z'⟩
  have hnb : n ∈ h.bundle n := mem_bundle.mpr hsn
  have hns : get (h.backH n r).shelved n = none := by rw [back_sh, if_pos hnb]
  -- what is in the bundle, but its root, has its parent in it
  have inb : ∀ {k : Int} {rk : Row}, k ≠ n → get h.shelved k = some n → get h.rows k = some rk → ∃ p, rk.par = some p ∧ get h.shelved p = some n := fun {k rk} ck hs hk => by
    obtain ⟨p, hp⟩ := nv.bp k n rk hs ck hk
    obtain ⟨r', h1, h2, h3⟩ := i.pr k rk p hk hp (by rw [hs]; exact fun w => ck (Option.some.inj w).symm)
    exact ⟨p, hp, h3.trans hs⟩
  -- the root against another one
  have root : ∀ {k : Int} {rk : Row}, k ≠ n → get h.rows k = some rk → get (h.backH n r).shelved k = none → rk.par = h.backPar r.par → rk.name ≠ freeV r.name (h.namesIn (h.backPar r.par) none) := fun {k rk} ck hk hs hp => by
    rw [back_sh] at hs
    by_cases cb : k ∈ h.bundle n
    · obtain ⟨p, h1, h2⟩ := inb ck (mem_bundle.mp cb) hk
      rw [h1] at hp
      have := hpar hp.symm
      rw [h2] at this
      cases this
    · rw [if_neg cb] at hs
      exact names_ne hfree hk hs (fun z => nomatch z) hp
  refine ⟨fun j k rj rk hj hk hs hp hnm => ?_, fun k m r' hk hne hr' => ?_⟩
  · rcases hg hj with ⟨rfl, rfl⟩ | ⟨cj, hj'⟩
    · rcases hg hk with ⟨rfl, rfl⟩ | ⟨ck, hk'⟩
      · rfl
      · exact absurd hnm.symm (root ck hk' (hs.symm.trans hns) hp.symm)
    · rcases hg hk with ⟨rfl, rfl⟩ | ⟨ck, hk'⟩
      · exact absurd hnm (root cj hj' (hs.trans hns) hp)
      · rw [back_sh, back_sh] at hs
        by_cases bj : j ∈ h.bundle n
        · by_cases bk : k ∈ h.bundle n
          · exact nv.uq j k rj rk hj' hk' ((mem_bundle.mp bj).trans (mem_bundle.mp bk).symm) hp hnm
          · rw [if_pos bj, if_neg bk] at hs
            obtain ⟨p, h1, h2⟩ := inb cj (mem_bundle.mp bj) hj'
            rw [h1] at hp
            obtain ⟨r', g1, g2, g3⟩ := i.pr k rk p hk' hp.symm (by rw [← hs]; exact fun w => nomatch w)
            rw [h2, ← hs] at g3
            cases g3
        · by_cases bk : k ∈ h.bundle n
          · rw [if_neg bj, if_pos bk] at hs
            obtain ⟨p, h1, h2⟩ := inb ck (mem_bundle.mp bk) hk'
            rw [h1] at hp
            obtain ⟨r', g1, g2, g3⟩ := i.pr j rj p hj' hp (by rw [hs]; exact fun w => nomatch w)
            rw [h2, hs] at g3
            cases g3
          · rw [if_neg bj, if_neg bk] at hs
            exact nv.uq j k rj rk hj' hk' hs hp hnm
  · rw [back_sh] at hk
    split at hk
    · cases hk
    · rename_i cb
      rcases hg hr' with ⟨rfl, rfl⟩ | ⟨_, hr''⟩
      · exact absurd hnb cb
      · exact nv.bp k m r' hk hne hr''
theorem ninv_told {h : HS} {b : Nat} (i : HInv h b) (hb : b < 64) (nv : NInv h) {dd : Deed} (ok : okDeed dd = true) (oa : okAt h dd) {d : D} {h' : HS} (e : h.toldO dd = .ok d h') : NInv h' := by
  unfold HS.toldO at e
  cases hd : h.doO dd with
  | err x =>
    rw [hd] at e
    cases e
    exact nv
  | ok d1 h1 =>
    rw [hd] at e
    cases e
    cases dd with
    | make par nm bx =>
      simp only [HS.doO, HS.makeO] at hd
      split at hd
      · cases hd
      · split at hd
        · cases hd
        · rename_i c
          cases hd
          exact nv.new i c
    | rename n nm =>
      simp only [HS.doO, HS.renameO] at hd
      split at hd
      · rename_i ht
        split at hd
        · rename_i r hr
          split at hd
          · cases hd
          · rename_i c
            cases hd
            exact nv.reput (there_none ht) fun k rk ck hk hs hp => names_ne c hk hs (fun z => ck (Option.some.inj z)) hp
        · cases hd
      · cases hd
    | move n par =>
      simp only [HS.doO, HS.moveO] at hd
      split at hd
      · rename_i ht
        split at hd
        · cases hd
        · split at hd
          · cases hd
          · split at hd
            · rename_i r hr
              split at hd
              · cases hd
              · rename_i c
                cases hd
                exact nv.reput (there_none ht) fun k rk ck hk hs hp => names_ne c hk hs (fun z => ck (Option.some.inj z)) hp
            · cases hd
      · cases hd
    | tie a b =>
      simp only [HS.doO, HS.tieO] at hd
      split at hd
      · split at hd
        · split at hd
          · cases hd
          · split at hd
            · cases hd
              exact nv
            · cases hd
              exact ⟨nv.uq, nv.bp⟩
        · cases hd
      · cases hd
    | untie a b =>
      simp only [HS.doO, HS.untieO] at hd
      split at hd
      · split at hd
        · split at hd
          · cases hd
            exact ⟨nv.uq, nv.bp⟩
          · cases hd
        · cases hd
      · cases hd
    | cast n =>
      by_cases ht : h.there n = true
      · have hd' : h.castO n = .ok d h' := hd
        rw [cast_eq ht] at hd'
        cases hd'
        exact nv.cast i ht
      · simp only [HS.doO, HS.castO] at hd
        rw [if_neg ht] at hd
        cases hd
    | back n =>
      simp only [HS.doO, HS.backO] at hd
      split at hd
      · rename_i hc
        split at hd
        · rename_i r hr
          cases hd
          exact nv.back i hb hc hr
        · cases hd
      · cases hd
    | gone n =>
      simp only [HS.doO, HS.goneO] at hd
      split at hd
      · cases hd
        exact nv.lose n
      · cases hd
    | empty =>
      simp only [HS.doO, HS.emptyO] at hd
      cases hd
      exact nv.loseAll _
    | next_day =>
      simp only [HS.doO, HS.nextO] at hd
      cases hd
      exact NInv.loseAll _ (h := h.tomorrow) ⟨nv.uq, nv.bp⟩
    | _ => cases ok
end Cs
set_option Elab.async false
set_option linter.all false
set_option maxRecDepth 100000
set_option maxHeartbeats 4000000
namespace Cs
open PySem PySem.Spec PyProof.Rows L2
/-! ### paths -/
inductive PathTo (h : HS) : Option Int → List Str → Prop where
  | nil : PathTo h none []
  | step {k : Int} {r : Row} {ps : List Str} : get h.rows k = some r → PathTo h r.par ps → PathTo h (some k) (ps ++ [r.name])
theorem PathTo.unique {h : HS} {o : Option Int} {ps : List Str} (a : PathTo h o ps) : ∀ {qs : List Str}, PathTo h o qs → ps = qs := by
  induction a with
  | nil =>
    intro qs b
    cases b
    rfl
  | step hr _ ih =>
    intro qs b
    cases b with
    | step hr' b' =>
      rw [hr] at hr'
      cases hr'
      rw [ih b']
theorem path_ex {h : HS} (tr : Tree h) : ∀ {k : Int}, h.there k = true → ∃ ps, PathTo h (some k) ps := by
  obtain ⟨rank, hr⟩ := tr
  have key : ∀ m k, rank k ≤ m → h.there k = true → ∃ ps, PathTo h (some k) ps := by
    intro m
    induction m with
    | zero =>
      intro k hk ht
      obtain ⟨r, hrk⟩ := there_row ht
      cases hp : r.par with
      | none => exact ⟨_, .step hrk (by rw [hp]; exact .nil)⟩
      | some p =>
        have := (hr k r p hrk ht hp).2
        omega
    | succ m ih =>
      intro k hk ht
      obtain ⟨r, hrk⟩ := there_row ht
      cases hp : r.par with
      | none => exact ⟨_, .step hrk (by rw [hp]; exact .nil)⟩
      | some p =>
        have h2 := hr k r p hrk ht hp
        obtain ⟨ps, h3⟩ := ih p (by omega) h2.1
        exact ⟨_, .step hrk (by rw [hp]; exact h3)⟩
  intro k ht
  exact key _ k (Nat.le_refl _) ht
open Classical in
noncomputable def HS.pathL (h : HS) (n : Int) : List Str := if e : ∃ ps, PathTo h (some n) ps then Classical.choose e else []
theorem pathL_eq {h : HS} {n : Int} {ps : List Str} (p : PathTo h (some n) ps) : h.pathL n = ps := by
  unfold HS.pathL
  have e : ∃ ps, PathTo h (some n) ps := ⟨ps, p⟩
  rw [dif_pos e]
  exact (Classical.choose_spec e).unique p
noncomputable def HS.pathR (h : HS) (n : Int) : Res := if h.there n = true then .ok (.tup ((h.pathL n).map D.str)) else .err "NoThing"
theorem isL_strs (H : Hp) : ∀ ns : List Str, IsL H (ns.map D.str) (ns.map V.str)
  | [] => rfl
  | n :: ns => ⟨_, _, rfl, rfl, isL_strs H ns⟩
theorem strs_pureL (ns : List Str) : D.pureL (ns.map D.str) = true := by
  induction ns with
  | nil => rfl
  | cons n r ih => exact (by rw [List.map_cons]; show (_ && _) = true; rw [ih]; rfl)
/-- xs.insert(0, e) -/
theorem go_insert0 {K : PySem.W.Frag} {ds : List (Option D)} {H : Hp} {ta te : TE} {tz : TS} {E : Ends} {l : Addr} {xs : List Str} {y : Str} (hl : H l = some (.lst (xs.map V.str))) (hz : xs.length < 100000) (ho : EvD ta ds H (.obj l)) (he : EvD te ds H (.str y)) (pe : pureE ds = true)
    (k : ∀ H1, Ex H H1 → Go tz ds (upd H1 l (.lst ((y :: xs).map V.str))) E) : Go (tSeq (tDrop (tBM K "list" rInsert ta (tCons (tC (.int 0)) (tCons te tNil)))) tz) ds H E := fun σ H1 e n =>
  ho σ H1 e n _ fun v H2 e2 hy => by
    cases (show _ = _ from hy)
    refine ⟨.inl ⟨rfl, _, SqL.of ((e.trans e2) _ _ hl)⟩, he σ H2 (e.trans e2) (n.mono e2) _ fun u H3 e3 hu => ?_⟩
    cases (show _ = _ from hu)
    have ee := (e.trans e2).trans e3
    have h3 := ee _ _ hl
    refine ⟨l, xs.map V.str, 0, .str y, rfl, rfl, h3, Nat.lt_trans (by rw [List.length_map]; exact hz) (by decide), by decide, by decide, ?_⟩
    refine k H3 ee σ _ (Same.refl _) (((n.mono e2).mono e3).tups (fun a ws q => ?_) pe)
    rw [upd_ne (ne_of q h3 (by intro z; cases z))]
    exact q
def sp_House_path (K : PySem.W.Frag) : Sp := rspX K fun H as r => ∃ p F h n, as = [.obj p, .int n] ∧ HRd (hC K) H p F h ∧ Tree h ∧ h.rows.length < 64 ∧ r = h.pathR n
theorem ok_House_path {P : Program} {w : World} {K : PySem.W.Frag} {mg : Str → Option Value} {base : Heap} (S : Says K mg) : Fk P w K mg base 3 (He.fAd K ("House", some "path")) ["self", "number"] (sp_House_path K) := by
  have G_House_must := ok_House_must (P := P) (w := w) (base := base) S
  refine mk_x S.df_House_path sc_House_path ?_ (by decide) fun cdv A outer s H H0 Q E as r bd hp k1 k2 => ?_
  · rintro H as d ⟨p, F, h, n, rfl, _⟩
    rfl
  · obtain ⟨p, F, h, n, rfl, x, tr, hl, rfl⟩ := hp
    obtain ⟨hr, tk, px, hu, hu65⟩ := bd
    refine ⟨_, (pss_cons (ps_expr (pe_mt (pv 0) S.cls_House S.meth_must G_House_must (hr.mono (by decide)) px (pa_cons (pv 1) pa_nil)))
      (pss_cons (ps_set (i := 2) sc_House_path.nd rfl (Or.inl rfl) (pe_lst pa_nil))
      (pss_cons (ps_set (i := 3) sc_House_path.nd rfl (Or.inl rfl) (pv 1))
      (pss_cons (ps_while (passes_of rfl) (pt_cmp (pc_notN (pv 3))) (pss_cons (ps_expr (pe_bm PySem.F.plainAttrs_list PySem.F.slot_list_insert PySem.F.type_list_insert mt_insert (pv 2) (pa_cons (pe_int) (pa_cons (pe_ix ix_tup (pe_dget hu (pe_fld (pv 0) rfl) (pv 3) (fun _ _ => rfl)) (pe_int) (fun _ _ => rfl)) pa_nil))))
      (pss_one (ps_set (i := 3) sc_House_path.nd rfl (Or.inl rfl) (pe_ix ix_tup (pe_dget hu (pe_fld (pv 0) rfl) (pv 3) (fun _ _ => rfl)) (pe_int) (fun _ _ => rfl))))))
      (pss_one (ps_ret (pe_callTy call_tuple_of (by rfl) S.free_tuple (by decide +kernel) (pa_cons (pv 2) pa_nil)))))))), ?_⟩
    refine go_doX (e_must x (ev_var rfl) (ev_var rfl)) (fun d hd => ?_) (fun y hy H2 e2 => ?_)
    · have ht := mustR_ok hd
      obtain ⟨rank, hrank⟩ := id tr
      have hkl : h.keys.length < 64 := by unfold HS.keys; rw [List.length_map]; exact hl
      refine go_asgNew (el_lst (xs := []) ea_nil (by simp)) fun l vs H1 hl1 e1 hv il => ?_
      cases (show _ = _ from il)
      refine go_asg (ev_var rfl) ?_
      refine go_while (ι := Option Int × List Str × List Int) (fun s H' => Ex H H' ∧ H' l = some (.lst (s.2.1.map V.str)) ∧ (∀ ps0, PathTo h s.1 ps0 → PathTo h (some n) (ps0 ++ s.2.1)) ∧ (∀ k, s.1 = some k → h.there k = true ∧ ∀ v ∈ s.2.2, rank k < rank v) ∧ s.2.2.Nodup ∧ (∀ v ∈ s.2.2, v ∈ h.keys) ∧ s.2.1.length = s.2.2.length) (fun s => [some (.obj p), some (.int n), some (.obj l), some (oI s.1)]) (fun s => s.1.elim 0 fun k => rank k + 1) (some n, [], []) rfl (fun H' e => ⟨e1.trans e, e _ _ hv, fun ps0 h0 => by rw [List.append_nil]; exact h0, fun k hk => (by cases hk; exact ⟨ht, fun v hv => (by cases hv)⟩), List.nodup_nil, fun v hv => (by cases hv), rfl⟩) fun s H2 ps => ?_
      obtain ⟨here, found, vis⟩ := s
      obtain ⟨ex, hf, hpt, hth, nd, sub, len⟩ := ps
      dsimp only at hf hpt hth nd sub len ⊢
      have x2 := x.mono ex
      refine ⟨!here.isNone, eb_B (ev_notN (ev_var rfl) (notN_oI here)), fun c N hN => ?_, fun c => ?_⟩
      · cases here with
        | none => cases c
        | some k =>
          obtain ⟨htk, hrk⟩ := hth k rfl
          obtain ⟨r, hr'⟩ := there_row htk
          have fl : found.length < 64 := by
            have := sub_lenI nd sub
            omega
          refine go_insert0 hf (by omega) (ev_var rfl) (e_name S x2 (ev_var rfl) (ev_var rfl) hr') rfl fun H3 e3 => ?_
          have h3 := e3 _ _ hf
          have ex3 : Ex H (upd H3 l (.lst ((r.name :: found).map V.str))) := fun b o hb => by
            rw [upd_ne (ne_of_none hb hl1)]
            exact e3 _ _ (ex b o hb)
          refine go_last (go_asg (e_par S (x.mono ex3) (ev_var rfl) (ev_var rfl) hr') (go_next fun σ H4 e4 n4 => ?_))
          refine hN (r.par, r.name :: found, k :: vis) σ H4 ⟨ex3.trans e4, e4 _ _ upd_same, fun ps0 h0 => ?_, fun k2 hk2 => ?_, List.nodup_cons.mpr ⟨fun m => ?_, nd⟩, fun v hv => ?_, by simp [len]⟩ ?_ n4
          · have := hpt _ (.step hr' h0)
            rw [List.append_assoc] at this
            exact this
          · obtain ⟨g1, g2⟩ := hrank k r k2 hr' htk hk2
            refine ⟨g1, fun v hv => ?_⟩
            rcases List.mem_cons.mp hv with z | z
            · rw [z]; exact g2
            · have := hrk v z
              omega
          · have := hrk k m
            omega
          · rcases List.mem_cons.mp hv with z | z
            · rw [z]; exact get_keyI hr'
            · exact sub v z
          · show r.par.elim 0 (fun k => rank k + 1) < rank k + 1
            cases hp : r.par with
            | none => exact Nat.succ_pos _
            | some k2 =>
              have := (hrank k r k2 hr' htk hp).2
              show rank k2 + 1 < rank k + 1
              omega
      · cases here with
        | some k => cases c
        | none =>
          have hp := pathL_eq (hpt [] .nil)
          rw [List.nil_append] at hp
          have isf : Is H2 (.lst (found.map D.str)) (.ref l) := ⟨l, _, rfl, hf, isL_strs _ _⟩
          refine go_ret (ev_cb (ea_cons (ev_as (ev_var rfl) isf) ea_nil) cl_tupleOf) fun v H3 e3 hv3 => k1 _ ?_ v H3 (ex.trans e3) hv3
          unfold HS.pathR
          rw [if_pos ht, hp]
    · obtain ⟨c, rfl⟩ := mustR_err hy
      exact k2 _ (by unfold HS.pathR; rw [if_neg (by rw [c]; exact Bool.false_ne_true)]) H2 e2
theorem e_path {K : PySem.W.Frag} {H : Hp} {p : Addr} {F : Foot} {h : HS} {ds : List (Option D)} {ta tn : TE} {X : XK} {n : Int} (x : HRd (hC K) H p F h) (tr : Tree h) (hl : h.rows.length < 64) (ht : h.there n = true) (ho : EvD ta ds H (.obj p)) (hn : EvD tn ds H (.int n)) : EvD (tMeth (hC K) "path" (sp_House_path K) [] X ta (tCons tn tNil)) ds H (.tup ((h.pathL n).map D.str)) := by
  have hx : EvX K X _ _ H (h.pathR n) := ex_meth (m := "path") (X := X) ho x.ob rfl (ea_cons hn ea_nil) (rspX_pr (Pre := fun H as r => ∃ p F h n, as = [.obj p, .int n] ∧ HRd (hC K) H p F h ∧ Tree h ∧ h.rows.length < 64 ∧ r = h.pathR n) fun H' e => ⟨p, F, h, n, rfl, x.mono e, tr, hl, rfl⟩)
  rw [show h.pathR n = .ok (.tup ((h.pathL n).map D.str)) by unfold HS.pathR; rw [if_pos ht]] at hx
  exact ev_of_x hx
theorem strs_dptT (ns : List Str) : dpt 1 (.tup (ns.map D.str)) = true := dpt_tup fun x hx => by
  obtain ⟨q, _, rfl⟩ := List.mem_map.mp hx
  exact dpt_flat rfl
/-! ### for over a tuple -/
section
variable {K : PySem.W.Frag} {ds : List (Option D)} {H : Hp} {tl : TE} {tu tz : TS} {E : Ends} {ι : Type} {xs : List D} {j : Nat}
theorem go_forTg (hl : EvD tl ds H (.tup xs)) (P : Addr → List V → Nat → ι → Hp → Prop) (env : ι → List (Option D)) (i0 : ι) (he : env i0 = ds) (h0 : ∀ a vs H1, Ex H H1 → H1 a = some (.tup vs) → IsL H1 xs vs → P a vs 0 i0 H1) (hk : ∀ a vs i s H', P a vs i s H' → H' a = some (.tup vs) ∧ IsL H' xs vs)
    (hs : ∀ a vs i x s H1, xs[i]? = some x → P a vs i s H1 → ∀ N : L2.St → Hp → Prop, (∀ s' σ H2, P a vs (i + 1) s' H2 → EnvOk H2 σ (env s') → N σ H2) → Go tu ((env s).set j (some x)) H1 { E with nx := N, ct := N, bk := tz E })
    (hd : ∀ a vs s H1, P a vs xs.length s H1 → Go tz (env s) H1 E) : Go (tSeq (tFor (iTup K tl) (gName j) tu) tz) ds H E := fun σ H1 e n =>
  hl σ H1 e n _ fun v H2 e2 hv => by
    obtain ⟨a, vs, rfl, ha, il⟩ := hv
    have p0 := h0 a vs H2 (e.trans e2) ha il
    refine ⟨a, rfl, ⟨vs, SqT.of ha⟩, for_tup (xs := vs) (fun i σ' H' => ∃ s, P a vs i s H' ∧ EnvOk H' σ' (env s)) ⟨i0, p0, by rw [he]; exact n.mono e2⟩ (fun i σ' H' _ p => let ⟨_, p, _⟩ := p; SqT.of (hk _ _ _ _ _ p).1) (fun i x σ' H' hx p => ?_) fun σ' H' p => ?_⟩
    · obtain ⟨s, ps, n'⟩ := p
      obtain ⟨d, hd, hx'⟩ := (hk _ _ _ _ _ ps).2.getV hx
      exact hs a vs i d s H' hd ps _ (fun s' σ2 H3 p3 n3 => ⟨s', p3, n3⟩) _ H' (Same.refl _) (n'.set hx' j)
    · obtain ⟨s, ps, n'⟩ := p
      rw [il.len] at ps
      exact hd a vs s H' ps σ' H' (Same.refl _) n'
end
/-! ### at -/
def HS.atStep (h : HS) (here : Option Int) (nm : Str) : List Int := h.thereL.filter fun k => decide ((rowAt' h k).par = here ∧ (rowAt' h k).name = nm)
def HS.atL (h : HS) : Option Int → List Str → Option Int
  | here, [] => here
  | here, nm :: r => match h.atStep here nm with
    | [] => none
    | k :: _ => h.atL (some k) r
def sp_House_at (K : PySem.W.Frag) : Sp := rsp fun H as d => ∃ p F h ps, as = [.obj p, .tup (ps.map D.str)] ∧ HRd (hC K) H p F h ∧ h.rows.length < 64 ∧ d = oI (h.atL none ps)
theorem at_comp (h : HS) (here : Option Int) (nm : Str) : (h.things.filterMap fun d => match d with | .tup [.int n, p, .str m, _] => if decide (p.val = (oI here).val) = true ∧ decide (m = nm) = true then some (D.int n) else none | _ => none) = (h.atStep here nm).map D.int := by
  rw [things_map, List.filterMap_map]
  unfold HS.atStep
  rw [← filterMap_if]
  refine fm_congr fun n _ => ?_
  show (if decide ((oI (rowAt' h n).par).val = (oI here).val) = true ∧ decide ((rowAt' h n).name = nm) = true then some (D.int n) else none) = _
  rw [oI_val]
  by_cases c1 : (rowAt' h n).par = here <;> by_cases c2 : (rowAt' h n).name = nm <;> simp [c1, c2]
end Cs
set_option Elab.async false
set_option linter.all false
set_option maxRecDepth 100000
set_option maxHeartbeats 4000000
namespace Cs
open PySem PySem.Spec PyProof.Rows L2
theorem at_cell {h : HS} {d : D} (hd : d ∈ h.things) : ∃ n p m t, d = .tup [.int n, oI p, .str m, oS t] := by
  rw [things_map] at hd
  obtain ⟨n, _, rfl⟩ := List.mem_map.mp hd
  exact ⟨_, _, _, _, rfl⟩
def atF (here : Option Int) (nm : Str) : D → Option D
  | .tup [.int n, p, .str m, _] => if decide (p.val = (oI here).val) = true ∧ decide (m = nm) = true then some (D.int n) else none
  | _ => none
theorem at_compF (h : HS) (here : Option Int) (nm : Str) : h.things.filterMap (atF here nm) = (h.atStep here nm).map D.int := by
  rw [things_map, List.filterMap_map]
  unfold HS.atStep
  rw [← filterMap_if]
  refine fm_congr fun n _ => ?_
  show (if decide ((oI (rowAt' h n).par).val = (oI here).val) = true ∧ decide ((rowAt' h n).name = nm) = true then some (D.int n) else none) = _
  rw [oI_val]
  by_cases c1 : (rowAt' h n).par = here <;> by_cases c2 : (rowAt' h n).name = nm <;> simp [c1, c2]
theorem ok_House_at {P : Program} {w : World} {K : PySem.W.Frag} {mg : Str → Option Value} {base : Heap} (S : Says K mg) : Fk P w K mg base 3 (He.fAd K ("House", some "at")) ["self", "path"] (sp_House_at K) := by
  have G_House_things := ok_House_things (P := P) (w := w) (base := base) S
  refine mk_g S.df_House_at sc_House_at ?_ (by decide) fun cdv A outer s H H0 Q E as d bd hp k => ?_
  · rintro H as d ⟨p, F, h, ps, rfl, _⟩
    rfl
  · obtain ⟨p, F, h, ps, rfl, x, hl, rfl⟩ := hp
    obtain ⟨hr, tk, px, hu, hu65⟩ := bd
    refine ⟨_, (pss_cons (ps_set (i := 2) sc_House_at.nd rfl (Or.inr rfl) (pe_non))
      (pss_cons (ps_for (passes_of rfl) rfl (pi_tup (pv 1)) (pg_name (i := 3) sc_House_at.nd rfl (Or.inr rfl)) (pss_cons (ps_setLc (i := 4) (own := [("row", 5)]) (g := (gName 5)) (tt := (tAnd (tTest (tOp rEq (tOp (rIxT K) (tVar 5) (tC (.int 1))) (tVar 2))) (tTest (tOp rEq (tOp (rIxT K) (tVar 5) (tC (.int 2))) (tVar 3))))) (te := (tOp (rIxT K) (tVar 5) (tC (.int 0)))) rfl sc_House_at.nd rfl rfl (sw_true rfl rfl rfl (by decide +kernel)) (pi_tup (pe_mt0 (pv 0) S.cls_House S.meth_things G_House_things (hr.mono (by decide)) px)) (blkOk_by (N := ["self", "path", "here", "name", "some", "row"]) (sc := defScope s_House_at) (by decide +kernel)) (fun _ _ _ _ _ => (pg_name (i := 5) sc_House_at.nd rfl (Or.inl rfl))) (fun _ _ _ _ _ => (pts_one (PW.pt (pw_and (pt_cmpR op_eq (pe_ix ix_tup (pv 5) (pe_int) (fun _ _ => rfl)) (pv 2) (nomark _)) (pw_and1 (pt_cmpR op_eq (pe_ix ix_tup (pv 5) (pe_int) (fun _ _ => rfl)) (pv 3) (nomark _))))))) (fun _ _ _ _ _ => (pe_ix ix_tup (pv 5) (pe_int) (fun _ _ => rfl))))
      (pss_cons (ps_if (pt_not (pt_truth (pv 4) (by intro _; rfl))) (pss_one (ps_ret (pe_non))) pss_nil)
      (pss_one (ps_set (i := 2) sc_House_at.nd rfl (Or.inr rfl) (pe_ix ix_list (pv 4) (pe_int) (fun _ _ => rfl)))))))
      (pss_one (ps_ret (pv 2))))), ?_⟩
    refine go_asg ev_non ?_
    refine go_forTg (ι := Option Int) (xs := ps.map D.str) (ev_var rfl) (fun a vs i here H' => Ex H H' ∧ H' a = some (.tup vs) ∧ IsL H' (ps.map D.str) vs ∧ h.atL none ps = h.atL here (ps.drop i)) (fun here => [some (.obj p), some (.tup (ps.map D.str)), some (oI here), none, none, none]) none rfl (fun a vs H1 e ha il => ⟨e, ha, il, rfl⟩) (fun a vs i here H' q => ⟨q.2.1, q.2.2.1⟩) (fun a vs i z here H1 hz q N hN => ?_) (fun a vs here H1 q => ?_)
    · obtain ⟨e1, ha, il, hat⟩ := q
      rw [List.getElem?_map] at hz
      cases hi : ps[i]? with
      | none => rw [hi] at hz; cases hz
      | some nm =>
        rw [hi] at hz
        cases hz
        have hdrop : ps.drop i = nm :: ps.drop (i + 1) := by
          obtain ⟨hlt, e⟩ := List.getElem?_eq_some_iff.mp hi
          rw [List.drop_eq_getElem_cons hlt, e]
        rw [hdrop] at hat
        have x1 := x.mono e1
        have htl : h.things.length < 1000000 := by
          have := things_len h
          omega
        have hcomp := ev_lcT (K := K) (j := 5) (tt := tAnd (tTest (tOp rEq (tOp (rIxT K) (tVar 5) (tC (.int 1))) (tVar 2))) (tTest (tOp rEq (tOp (rIxT K) (tVar 5) (tC (.int 2))) (tVar 3)))) (te := tOp (rIxT K) (tVar 5) (tC (.int 0))) (ds := [some (.obj p), some (.tup (ps.map D.str)), some (oI here), some (.str nm), none, none]) (atF here nm) (e_things (X := E) x1 hl (ev_var (i := 0) rfl)) htl (fun d hd => ?_) (fun d hd y hy => ?_)
        · rw [at_compF] at hcomp
          refine go_asg hcomp ?_
          refine go_when (b := (h.atStep here nm).isEmpty) (eb_is (eb_not (eb_truL (ev_var rfl))) (by rw [List.isEmpty_map]; cases (h.atStep here nm).isEmpty <;> rfl)) (fun c => ?_) (fun c => ?_)
          · refine go_ret ev_non fun v H2 e2 hv => ?_
            refine k v H2 (e1.trans e2) ?_
            have : h.atL none ps = none := by
              rw [hat]
              unfold HS.atL
              rw [List.isEmpty_iff.mp c]
            rw [this]
            exact hv
          · cases hs : h.atStep here nm with
            | nil => rw [hs] at c; cases c
            | cons kk r =>
              refine go_last (go_asg (x := .int kk) (ev_op (ev_var rfl) ev_int (op_ixL (i := 0) rfl)) (go_next fun σ H2 e2 n2 => ?_))
              refine hN (some kk) σ H2 ⟨e1.trans e2, e2 _ _ ha, il.mono e2, ?_⟩ ((n2.forget 3).forget 4)
              rw [hat]
              show (match h.atStep here nm with | [] => none | k :: _ => h.atL (some k) (ps.drop (i + 1))) = _
              rw [hs]
        · obtain ⟨n, pp, m, t, rfl⟩ := at_cell hd
          refine eb_is (eb_and (eb_test (ev_op (ev_op (ev_var rfl) ev_int (op_ixT (i := 1) rfl)) (ev_var rfl) (op_eqF (oI_flat _) (oI_flat _) (oI_scal _ _)))) fun _ => eb_test (ev_op (ev_op (ev_var rfl) ev_int (op_ixT (i := 2) rfl)) (ev_var rfl) (op_eqF rfl rfl rfl))) ?_
          show (decide ((oI pp).val = (oI here).val) && decide ((D.str m).val = (D.str nm).val)) = (if decide ((oI pp).val = (oI here).val) = true ∧ decide (m = nm) = true then some (D.int n) else none).isSome
          have e2 : decide ((D.str m).val = (D.str nm).val) = decide (m = nm) := by simp [D.val]
          rw [e2]
          cases decide ((oI pp).val = (oI here).val) <;> cases decide (m = nm) <;> rfl
        · obtain ⟨n, pp, m, t, rfl⟩ := at_cell hd
          unfold atF at hy
          dsimp only at hy
          split at hy
          · cases hy
            exact ⟨ev_op (ev_var rfl) ev_int (op_ixT (i := 0) rfl), rfl⟩
          · cases hy
    · obtain ⟨e1, ha, il, hat⟩ := q
      rw [List.length_map, List.drop_length] at hat
      refine go_ret (ev_var rfl) fun v H2 e2 hv => k v H2 (e1.trans e2) ?_
      rw [hat]
      exact hv
theorem e_at {K : PySem.W.Frag} {H : Hp} {p : Addr} {F : Foot} {h : HS} {ds : List (Option D)} {ta tn : TE} {X : XK} {ps : List Str} (x : HRd (hC K) H p F h) (hl : h.rows.length < 64) (ho : EvD ta ds H (.obj p)) (hn : EvD tn ds H (.tup (ps.map D.str))) : EvD (tMeth (hC K) "at" (sp_House_at K) [] X ta (tCons tn tNil)) ds H (oI (h.atL none ps)) :=
  ev_meth ho x.ob rfl (ea_cons hn ea_nil) (rsp_pr fun H' e => ⟨p, F, h, ps, rfl, x.mono e, hl, rfl⟩)
/-! ### paths lead to their things, and nothing else does -/
theorem rowAt'_eq {h : HS} {k : Int} {r : Row} (hr : get h.rows k = some r) : rowAt' h k = r := by
  unfold rowAt'
  rw [hr]
  rfl
theorem mem_atStep {h : HS} {here : Option Int} {nm : Str} {k : Int} : k ∈ h.atStep here nm ↔ h.there k = true ∧ ∃ r, get h.rows k = some r ∧ r.par = here ∧ r.name = nm := by
  unfold HS.atStep
  rw [List.mem_filter, mem_thereL]
  constructor
  · rintro ⟨ht, hd⟩
    obtain ⟨r, hr⟩ := there_row ht
    have := of_decide_eq_true hd
    rw [rowAt'_eq hr] at this
    exact ⟨ht, r, hr, this⟩
  · rintro ⟨ht, r, hr, hp⟩
    refine ⟨ht, decide_eq_true ?_⟩
    rw [rowAt'_eq hr]
    exact hp
theorem atStep_one {h : HS} (nv : NInv h) {k : Int} {r : Row} (ht : h.there k = true) (hr : get h.rows k = some r) : ∃ l, h.atStep r.par r.name = k :: l := by
  have hm : k ∈ h.atStep r.par r.name := mem_atStep.mpr ⟨ht, r, hr, rfl, rfl⟩
  cases hs : h.atStep r.par r.name with
  | nil => rw [hs] at hm; cases hm
  | cons j l =>
    have hj : j ∈ h.atStep r.par r.name := by rw [hs]; exact List.mem_cons_self
    obtain ⟨htj, rj, hrj, hp, hn⟩ := mem_atStep.mp hj
    have : j = k := nv.uq j k rj r hrj hr ((there_none htj).trans (there_none ht).symm) hp hn
    exact ⟨l, by rw [this]⟩
theorem at_path {h : HS} (nv : NInv h) (tr : Tree h) {o : Option Int} {ps : List Str} (p : PathTo h o ps) : (∀ k, o = some k → h.there k = true) → ∀ rest, h.atL none (ps ++ rest) = h.atL o rest := by
  induction p with
  | nil => intro _ rest; rfl
  | @step k r ps hr p ih =>
    intro ht rest
    have htk := ht k rfl
    rw [List.append_assoc, ih (fun k2 hk2 => ?_)]
    · obtain ⟨l, hs⟩ := atStep_one nv htk hr
      show (match h.atStep r.par r.name with | [] => none | k :: _ => h.atL (some k) rest) = _
      rw [hs]
    · obtain ⟨rank, hrank⟩ := tr
      exact (hrank k r k2 hr htk hk2).1
theorem at_pathL {h : HS} (nv : NInv h) (tr : Tree h) {n : Int} (ht : h.there n = true) : h.atL none (h.pathL n) = some n := by
  obtain ⟨ps, p⟩ := path_ex tr ht
  have := at_path nv tr p (fun k hk => by cases hk; exact ht) []
  rw [List.append_nil] at this
  rw [pathL_eq p, this]
  rfl
theorem at_back {h : HS} : ∀ {ps qs : List Str} {o : Option Int} {k : Int}, PathTo h o qs → (∀ j, o = some j → h.there j = true) → h.atL o ps = some k → PathTo h (some k) (qs ++ ps) ∧ h.there k = true
  | [], qs, o, k, p, ht, e => by
    have e' : o = some k := e
    subst e'
    rw [List.append_nil]
    exact ⟨p, ht k rfl⟩
  | nm :: ps, qs, o, k, p, ht, e => by
    have e' : (match h.atStep o nm with | [] => none | k :: _ => h.atL (some k) ps) = some k := e
    cases hs : h.atStep o nm with
    | nil => rw [hs] at e'; cases e'
    | cons j l =>
      rw [hs] at e'
      have hj : j ∈ h.atStep o nm := by rw [hs]; exact List.mem_cons_self
      obtain ⟨htj, r, hr, hp, hn⟩ := mem_atStep.mp hj
      have p2 : PathTo h (some j) (qs ++ [r.name]) := .step hr (by rw [hp]; exact p)
      have := at_back p2 (fun j2 h2 => by cases h2; exact htj) e'
      rw [hn, List.append_assoc] at this
      exact this
theorem at_some {h : HS} {ps : List Str} {k : Int} (e : h.atL none ps = some k) : h.there k = true ∧ h.pathL k = ps := by
  obtain ⟨p, ht⟩ := at_back (qs := []) .nil (fun j hj => by cases hj) e
  exact ⟨ht, pathL_eq p⟩
end Cs
set_option Elab.async false
set_option linter.all false
set_option maxRecDepth 100000
set_option maxHeartbeats 4000000
namespace Cs
open PySem PySem.Spec PyProof.Rows L2
theorem okW_law_word {P : Program} {w : World} {K : PySem.W.Frag} {mg : Str → Option Value} {base : Heap} (S : Says K mg) : FkW P w K mg base 1 (He.fAd K ("_law_word", none)) ["kept"] (sp_law_word K) := by
  refine mk_gW S.df_law_word sc_law_word ?_ (by decide) fun cdv A outer s H H0 Q E as d hp k => ?_
  · rintro H as d ⟨a, x, rfl, _⟩
    rfl
  · obtain ⟨a, x, rfl, ha, hx, rfl⟩ := hp
    refine ⟨_, (pss_cons (ps_set (i := 1) sc_law_word.nd rfl (Or.inl rfl) (pe_lst (pa_cons (pe_callB call_isH (by rfl) S.free_isinstance (by decide +kernel) (pa_cons (pv 0) (pa_cons (pe_glob (v := .ref (He.ga K "NoThing")) (by rfl) S.glo_NoThing rfl) pa_nil))) (pa_cons (pe_callB call_isH (by rfl) S.free_isinstance (by decide +kernel) (pa_cons (pv 0) (pa_cons (pe_glob (v := .ref (He.ga K "NoBox")) (by rfl) S.glo_NoBox rfl) pa_nil))) pa_nil))))
      (pss_cons (ps_set (i := 1) sc_law_word.nd rfl (Or.inl rfl) (pe_op op_cat (pv 1) (pe_lst (pa_cons (pe_callB call_isH (by rfl) S.free_isinstance (by decide +kernel) (pa_cons (pv 0) (pa_cons (pe_glob (v := .ref (He.ga K "NoSheet")) (by rfl) S.glo_NoSheet rfl) pa_nil))) (pa_cons (pe_callB call_isH (by rfl) S.free_isinstance (by decide +kernel) (pa_cons (pv 0) (pa_cons (pe_glob (v := .ref (He.ga K "Taken")) (by rfl) S.glo_Taken rfl) pa_nil))) pa_nil)))))
      (pss_cons (ps_set (i := 1) sc_law_word.nd rfl (Or.inl rfl) (pe_op op_cat (pv 1) (pe_lst (pa_cons (pe_callB call_isH (by rfl) S.free_isinstance (by decide +kernel) (pa_cons (pv 0) (pa_cons (pe_glob (v := .ref (He.ga K "Inside")) (by rfl) S.glo_Inside rfl) pa_nil))) (pa_cons (pe_callB call_isH (by rfl) S.free_isinstance (by decide +kernel) (pa_cons (pv 0) (pa_cons (pe_glob (v := .ref (He.ga K "NoRoom")) (by rfl) S.glo_NoRoom rfl) pa_nil))) pa_nil)))))
      (pss_cons (ps_set (i := 1) sc_law_word.nd rfl (Or.inl rfl) (pe_op op_cat (pv 1) (pe_lst (pa_cons (pe_callB call_isH (by rfl) S.free_isinstance (by decide +kernel) (pa_cons (pv 0) (pa_cons (pe_glob (v := .ref (He.ga K "Same")) (by rfl) S.glo_Same rfl) pa_nil))) (pa_cons (pe_callB call_isH (by rfl) S.free_isinstance (by decide +kernel) (pa_cons (pv 0) (pa_cons (pe_glob (v := .ref (He.ga K "NoTie")) (by rfl) S.glo_NoTie rfl) pa_nil))) pa_nil)))))
      (pss_cons (ps_set (i := 2) sc_law_word.nd rfl (Or.inl rfl) (pe_tup (pa_cons (pe_str) (pa_cons (pe_str) (pa_cons (pe_str) (pa_cons (pe_str) (pa_cons (pe_str) (pa_cons (pe_str) (pa_cons (pe_str) pa_nil)))))))))
      (pss_cons (ps_set (i := 2) sc_law_word.nd rfl (Or.inl rfl) (pe_op op_catT (pv 2) (pe_tup (pa_cons (pe_str) (pa_cons (pe_str) pa_nil)))))
      (pss_cons (ps_expr (pe_bm PySem.F.plainAttrs_list PySem.F.slot_list_append PySem.F.type_list_append mt_append (pv 1) (pa_cons (pe_callB call_isH (by rfl) S.free_isinstance (by decide +kernel) (pa_cons (pv 0) (pa_cons (pe_glob (v := .ref (He.ga K "NoCast")) (by rfl) S.glo_NoCast rfl) pa_nil))) pa_nil)))
      (pss_cons (ps_if (PW.pt (pw_or (pt_cmpR op_ne (pe_bm PySem.F.plainAttrs_list PySem.F.slot_list_count PySem.F.type_list_count mt_countB (pv 1) (pa_cons (pe_bl) pa_nil)) (pe_int) (nomark _)) (pw_or1 (pt_not (pt_val (pe_callB call_isH (by rfl) S.free_isinstance (by decide +kernel) (pa_cons (pv 0) (pa_cons (pe_bltn (v := .ty "ValueError") (by rfl) S.free_ValueError (by decide +kernel) rfl) pa_nil)))))))) (pss_one (ps_ret (pe_str))) pss_nil)
      (pss_one (ps_ret (pe_ix ix_tup (pv 2) (pe_bm PySem.F.plainAttrs_list PySem.F.slot_list_index PySem.F.type_list_index mt_index (pv 1) (pa_cons (pe_bl) pa_nil)) (fun _ _ => rfl)))))))))))), ?_⟩
    have m0 : ∀ y, y ∈ excs → ∀ {ds : List (Option D)} {H1 : Hp}, Ex H H1 → ds[0]? = some (some (.obj a)) → EvD (tCB (rIsH K) (tCons (tVar 0) (tCons (tC (.ref (He.ga K y))) tNil))) ds H1 (.bl (decide (x = y))) := fun y hy ds H1 e i0 => ev_isH S hx (e _ _ ha) (ev_var i0) hy
    have e0 := Same.refl H
    refine go_asg (ev_lst (ea_cons (m0 "NoThing" (by decide +kernel) e0 rfl) (ea_cons (m0 "NoBox" (by decide +kernel) e0 rfl) ea_nil)) (by simp)) ?_
    refine go_asg (el_cat (ev_var rfl) (ev_lst (ea_cons (m0 "NoSheet" (by decide +kernel) e0 rfl) (ea_cons (m0 "Taken" (by decide +kernel) e0 rfl) ea_nil)) (by simp)) (by simp)).d ?_
    refine go_asg (el_cat (ev_var rfl) (ev_lst (ea_cons (m0 "Inside" (by decide +kernel) e0 rfl) (ea_cons (m0 "NoRoom" (by decide +kernel) e0 rfl) ea_nil)) (by simp)) (by simp)).d ?_
    refine go_asgNew (el_cat (ev_var rfl) (ev_lst (ea_cons (m0 "Same" (by decide +kernel) e0 rfl) (ea_cons (m0 "NoTie" (by decide +kernel) e0 rfl) ea_nil)) (by simp)) (by simp)) fun p vs H2 hn e2 hp hl => ?_
    refine go_asg (ev_tup (ea_cons ev_str (ea_cons ev_str (ea_cons ev_str (ea_cons ev_str (ea_cons ev_str (ea_cons ev_str (ea_cons ev_str ea_nil))))))) (by simp)) ?_
    refine go_asg (ev_op (ev_var rfl) (ev_tup (ea_cons ev_str (ea_cons ev_str ea_nil)) (by simp)) (op_catTD (by simp) (by simp) (by simp))) ?_
    refine go_append hp hl (by simp) rfl rfl rfl (ev_var rfl) (m0 "NoCast" (by decide +kernel) e2 rfl) fun u H3 b3 hp3 hl3 => ?_
    have e3 : Ex H H3 := e2.but hn b3
    have hL : Is H3 (.lst (bls (excs.map fun y => decide (x = y)))) (.ref p) := ⟨p, _, rfl, hp3, hl3⟩
    have eK : ∀ {ds : List (Option D)}, ds[1]? = some (some (.obj p)) → EvD (tVar 1) ds H3 (.lst (bls (excs.map fun y => decide (x = y)))) := fun i1 => ev_as (ev_var i1) hL
    have hc : (excs.map fun y => decide (x = y)).count true = 1 ∧ ∃ j : Nat, (excs.map fun y => decide (x = y))[j]? = some true ∧ (∀ m : Nat, m < j → (excs.map fun y => decide (x = y))[m]? = some false) ∧ wordL[j]? = some (wordOf x) := by
      have hall : ∀ z ∈ excs, (excs.map fun y => decide (z = y)).count true = 1 ∧ ((excs.map fun y => decide (z = y))[excs.findIdx fun y => decide (z = y)]? = some true ∧ (∀ m : Nat, m < (excs.findIdx fun y => decide (z = y)) → (excs.map fun y => decide (z = y))[m]? = some false) ∧ wordL[excs.findIdx fun y => decide (z = y)]? = some (wordOf z)) := by decide +kernel
      exact ⟨(hall x hx).1, _, (hall x hx).2⟩
    obtain ⟨hc1, j, hj1, hj2, hj3⟩ := hc
    refine go_when (b := false) (eb_is (eb_or (b := false) (c := false) (eb_is (eb_test (ev_op (ev_cnt (bs := excs.map fun y => decide (x = y)) (eK rfl) ev_bl) ev_int (op_neF rfl rfl rfl))) (by rw [hc1]; rfl)) fun _ => eb_is (eb_not (eb_B (ev_isHV S hx (e3 _ _ ha) (ev_var rfl)))) rfl) rfl) (fun q => by cases q) fun _ => ?_
    refine go_ret (d := .str (wordOf x)) ?_ fun v H4 e4 hv => k v H4 (e3.trans e4) hv
    refine ev_op (ev_var rfl) (ev_index (j := j) (bs := excs.map fun y => decide (x = y)) (eK rfl) ev_bl hj1 hj2) (op_ixT (i := j) ?_)
    have : (wordL.map D.str)[j]? = some (.str (wordOf x)) := by rw [List.getElem?_map, hj3]; rfl
    exact this
def Res.toldP : Res → D
  | .ok d => d
  | .err x => .str (wordOf x)
def sp_law_path (K : PySem.W.Frag) : Sp := rsp fun H as d => ∃ p F h n, as = [.obj p, .int n] ∧ HRd (hC K) H p F h ∧ Tree h ∧ h.rows.length < 64 ∧ d = (h.pathR n).toldP
theorem pathR_err {h : HS} {n : Int} {z : Str} (e : h.pathR n = .err z) : z ∈ excs := by
  unfold HS.pathR at e
  split at e
  · cases e
  · cases e
    decide +kernel
theorem ok_law_path {P : Program} {w : World} {K : PySem.W.Frag} {mg : Str → Option Value} {base : Heap} (S : Says K mg) : Fk P w K mg base 4 (He.fAd K ("_law_path", none)) ["house", "number"] (sp_law_path K) := by
  have G_House_path := ok_House_path (P := P) (w := w) (base := base) S
  have G_law_word := ok_law_word (P := P) (w := w) (base := base) S
  have W_law_word := okW_law_word (P := P) (w := w) (base := base) S
  refine mk_g S.df_law_path sc_law_path ?_ (by decide) fun cdv A outer s H H0 Q E as d bd hp k => ?_
  · rintro H as d ⟨p, F, h, n, rfl, _⟩
    rfl
  · obtain ⟨p, F, h, m, rfl, x, tr, hl, rfl⟩ := hp
    obtain ⟨hr, tk, px, hu, hu65⟩ := bd
    refine ⟨_, (pss_one (ps_try_hot (i := 2) rfl rfl rfl rfl sc_law_path.nd rfl rfl ⟨by rfl, by decide, .inl S.glo_HouseError⟩ (fun W pn xe tk _ => (pss_one (ps_ret (pe_mtS (pv 0) S.cls_House S.meth_path G_House_path (hr.mono (by decide)) tk (pa_cons (pv 1) pa_nil))))) (fun a pn => pss_one (ps_ret (pe_cfW W_law_word (roomM (hr.mono (by decide))) (by rfl) S.glo__law_word passL (pa_cons (pv 2) pa_nil)))))), ?_⟩
    intro σ H1 e n
    have ho : EvD (tVar 0) [some (.obj p), some (.int m), none] H (.obj p) := ev_var rfl
    have hargs : EvA (tCons (tVar 1) tNil) [some (.obj p), some (.int m), none] H [.int m] := ea_cons (ev_var rfl) ea_nil
    unfold tRet tMeS
    dsimp only
    refine ho σ H1 e n _ fun v0 H1' e1' hv0 => ?_
    cases (show _ = _ from hv0)
    refine ⟨p, F.dx, flds F h, rfl, (e.trans e1') _ _ x.ob, rfl, ?_⟩
    refine hargs σ H1' (e.trans e1') (n.mono e1') _ fun vs H2 e2 hv => ?_
    have e12 := e1'.trans e2
    have x2 := x.mono (e.trans e12)
    refine ⟨[.obj p, .int m], h.pathR m, .cons rfl hv, ⟨p, F, h, m, rfl, x2, tr, hl, rfl⟩, fun d hd v H3 e3 hv' => ?_, fun z hz H3 e3 => ?_⟩
    · rw [hd] at k
      exact k v H3 ((e.trans e12).trans e3) hv'
    · have hx := pathR_err hz
      refine ⟨S.exm hx, rfl, fun a ha => ?_⟩
      have ea : Ex H3 (upd H3 a (ExH (.ref (He.ga K z)) a)) := Ex.new ha
      have n3 : EnvOk (upd H3 a (ExH (.ref (He.ga K z)) a)) (σ.set 2 (some (.ref a))) [some (.obj p), some (.int m), some (.obj a)] := (((n.mono e12).mono e3).mono ea).set (d := .obj a) (v := .ref a) rfl 2
      refine go_ret (d := .str (wordOf z)) (E := { nx := fun σ' H' => Q .non H', rt := Q }) (ev_call (ea_cons (ev_var rfl) ea_nil) (rsp_pr fun H' e' => ⟨a, z, rfl, e' _ _ upd_same, hx, rfl⟩)) (fun u H4 e4 hu => ?_) _ _ (Same.refl _) n3
      rw [hz] at k
      exact k u H4 ((((e.trans e12).trans e3).trans ea).trans e4) hu
theorem op_catAD {K : PySem.W.Frag} {H : Hp} {xs ys : List D} (hl : xs.length + ys.length ≤ 1000000) : Op (rCatA K) H (.tup xs) (.tup ys) (.tup (xs ++ ys)) := fun H1 e v u hv hu Q k => by
  obtain ⟨p, vs, rfl, hp, h1⟩ := hv
  obtain ⟨q, us, rfl, hq, h2⟩ := hu
  have l1 := h1.len
  have l2 := h2.len
  refine ⟨p, q, vs, us, rfl, rfl, SqT.of hp, SqT.of hq, Nat.le_trans (by rw [l1, l2]; exact hl) (by decide), fun z => ?_, fun _ z => ?_, fun _ _ r hr => ?_⟩
  · subst z
    cases xs with
    | nil => exact k _ _ (Same.refl _) ⟨q, us, rfl, hq, h2⟩
    | cons _ _ => cases l1
  · subst z
    cases ys with
    | nil => exact k _ _ (Same.refl _) ⟨p, vs, rfl, hp, by rw [List.append_nil]; exact h1⟩
    | cons _ _ => cases l2
  · exact k _ _ (Ex.new hr) ⟨r, _, rfl, upd_same, (h1.app h2).mono (Ex.new hr)⟩
def sp_law_names_to (K : PySem.W.Frag) : Sp := rsp fun H as d => ∃ q G h n, as = [.obj q, .int n] ∧ SRd H q G h.abs ∧ Tree h ∧ h.rows.length < 64 ∧ h.there n = true ∧ d = .tup ((h.pathL n).map D.str)
theorem ok_law_names_to {P : Program} {w : World} {K : PySem.W.Frag} {mg : Str → Option Value} {base : Heap} (S : Says K mg) : Fk P w K mg base 1 (He.fAd K ("_law_names_to", none)) ["state", "number"] (sp_law_names_to K) := by
  refine mk_g S.df_law_names_to sc_law_names_to ?_ (by decide) fun cdv A outer s H H0 Q E as d bd hp k => ?_
  · rintro H as d ⟨q, G, h, n, rfl, _⟩
    rfl
  · obtain ⟨q, G, h, n, rfl, x, tr, hl, ht, rfl⟩ := hp
    obtain ⟨hr, tk, px, hu, hu65⟩ := bd
    refine ⟨_, (pss_cons (ps_set (i := 2) sc_law_names_to.nd rfl (Or.inl rfl) (pe_tup pa_nil))
      (pss_cons (ps_while (passes_of rfl) (pt_cmp (pc_notN (pv 1))) (pss_cons (ps_set (i := 2) sc_law_names_to.nd rfl (Or.inl rfl) (pe_op op_catA (pe_tup (pa_cons (pe_ix ix_tup (pe_dget hu (pe_dget hu (pv 0) (pe_str) (fun _ _ => rfl)) (pv 1) (fun _ _ => rfl)) (pe_int) (fun _ _ => rfl)) pa_nil)) (pv 2)))
      (pss_one (ps_set (i := 1) sc_law_names_to.nd rfl (Or.inl rfl) (pe_ix ix_tup (pe_dget hu (pe_dget hu (pv 0) (pe_str) (fun _ _ => rfl)) (pv 1) (fun _ _ => rfl)) (pe_int) (fun _ _ => rfl))))))
      (pss_one (ps_ret (pv 2))))), ?_⟩
    obtain ⟨rank, hrank⟩ := id tr
    have hkl : h.keys.length < 64 := by unfold HS.keys; rw [List.length_map]; exact hl
    refine go_asg (ev_tup (as := []) ea_nil (by simp)) ?_
    refine go_while (ι := Option Int × List Str × List Int) (fun s H' => Ex H H' ∧ (∀ ps0, PathTo h s.1 ps0 → PathTo h (some n) (ps0 ++ s.2.1)) ∧ (∀ k, s.1 = some k → h.there k = true ∧ ∀ v ∈ s.2.2, rank k < rank v) ∧ s.2.2.Nodup ∧ (∀ v ∈ s.2.2, v ∈ h.keys) ∧ s.2.1.length = s.2.2.length) (fun s => [some (.obj q), some (oI s.1), some (.tup (s.2.1.map D.str))]) (fun s => s.1.elim 0 fun k => rank k + 1) (some n, [], []) rfl (fun H' e => ⟨e, fun ps0 h0 => by rw [List.append_nil]; exact h0, fun k hk => (by cases hk; exact ⟨ht, fun v hv => (by cases hv)⟩), List.nodup_nil, fun v hv => (by cases hv), rfl⟩) fun s H2 ps => ?_
    obtain ⟨here, found, vis⟩ := s
    obtain ⟨ex, hpt, hth, nd, sub, len⟩ := ps
    dsimp only at hpt hth nd sub len ⊢
    have x2 := x.mono ex
    refine ⟨!here.isNone, eb_B (ev_notN (ev_var rfl) (notN_oI here)), fun c N hN => ?_, fun c => ?_⟩
    · cases here with
      | none => cases c
      | some k =>
        obtain ⟨htk, hrk⟩ := hth k rfl
        obtain ⟨r, hr'⟩ := there_row htk
        have hr2 : get h.abs.rows k = some ⟨r, get h.shelved k⟩ := by rw [abs_get, hr']; rfl
        have fl : found.length < 64 := by
          have := sub_lenI nd sub
          omega
        refine go_asg (x := .tup ((r.name :: found).map D.str)) (ev_op (ev_tup (ea_cons (s_name x2 (ev_var rfl) (ev_var rfl) hr2) ea_nil) (by simp)) (ev_var rfl) (op_catAD (by simp; omega))) ?_
        refine go_last (go_asg (s_par x2 (ev_var rfl) (ev_var rfl) hr2) (go_next fun σ H4 e4 n4 => ?_))
        refine hN (r.par, r.name :: found, k :: vis) σ H4 ⟨ex.trans e4, fun ps0 h0 => ?_, fun k2 hk2 => ?_, List.nodup_cons.mpr ⟨fun m => ?_, nd⟩, fun v hv => ?_, by simp [len]⟩ ?_ n4
        · have := hpt _ (.step hr' h0)
          rw [List.append_assoc] at this
          exact this
        · obtain ⟨g1, g2⟩ := hrank k r k2 hr' htk hk2
          refine ⟨g1, fun v hv => ?_⟩
          rcases List.mem_cons.mp hv with z | z
          · rw [z]; exact g2
          · have := hrk v z
            omega
        · have := hrk k m
          omega
        · rcases List.mem_cons.mp hv with z | z
          · rw [z]; exact get_keyI hr'
          · exact sub v z
        · show r.par.elim 0 (fun k => rank k + 1) < rank k + 1
          cases hp : r.par with
          | none => exact Nat.succ_pos _
          | some k2 =>
            have := (hrank k r k2 hr' htk hp).2
            show rank k2 + 1 < rank k + 1
            omega
    · cases here with
      | some k => cases c
      | none =>
        have hp := pathL_eq (hpt [] .nil)
        rw [List.nil_append] at hp
        refine go_ret (ev_var rfl) fun v H3 e3 hv3 => k v H3 (ex.trans e3) ?_
        rw [hp]
        exact hv3
/-! ### the law -/
theorem cut_init {vs : List V} {n : Nat} (h : vs.length = n + 1) : cutV vs none (some (-1)) = vs.take n ∧ ¬ (HT.sIx vs.length 0 none = 0 ∧ HT.sIx vs.length vs.length (some (-1)) = vs.length) := by
  have e1 : HT.sIx vs.length vs.length (some (-1)) = n := by
    show (if (-1 : Int) < 0 then ((-1 : Int) + (vs.length : Int)).toNat else min (-1 : Int).toNat vs.length) = n
    rw [if_pos (by decide), h]
    omega
  constructor
  · unfold cutV
    rw [e1, HT.sIx_none]
    rfl
  · rw [e1, h]
    omega
theorem isL_take {H : Hp} : ∀ {xs : List D} {vs : List V} (n : Nat), IsL H xs vs → IsL H (xs.take n) (vs.take n)
  | [], vs, n, h => by
    cases (show vs = [] from h)
    simp
    rfl
  | x :: xs, vs, 0, h => rfl
  | x :: xs, vs, n + 1, h => by
    obtain ⟨v, us, rfl, hv, hr⟩ := h
    exact ⟨v, us.take n, rfl, hv, isL_take n hr⟩
theorem ev_init {K : PySem.W.Frag} {ds : List (Option D)} {H : Hp} {ta : TE} {xs : List D} {n : Nat} (hx : xs.length = n + 1) (h : EvD ta ds H (.tup xs)) : EvD (tSl (rSlT K) ta tNoPart (tPart (tUn (rU fun i => .int (-i)) (tC (.int 1))))) ds H (.tup (xs.take n)) := fun σ H1 e nn Q k =>
  h σ H1 e nn _ fun v H2 e2 hv => by
    obtain ⟨p, vs, rfl, hp, hl⟩ := hv
    have hlen := hl.len
    obtain ⟨c1, c2⟩ := cut_init (vs := vs) (n := n) (by rw [hlen]; exact hx)
    refine ⟨1, rfl, -1, rfl, p, vs, rfl, SqT.of hp, c2, fun q hq => ?_⟩
    rw [c1]
    exact k _ _ (e2.trans (Ex.new hq)) ⟨q, _, rfl, upd_same, (isL_take n hl).mono (Ex.new hq)⟩
/-- for x in (a list of data), nothing is changed -/
theorem go_forLd {K : PySem.W.Frag} {ds : List (Option D)} {H : Hp} {tl : TE} {tu tz : TS} {E : Ends} {xs : List D} {j : Nat} (hl : EvD tl ds H (.lst xs))
    (hs : ∀ (i : Nat) (x : D) (H1 : Hp), xs[i]? = some x → Ex H H1 → ∀ N : L2.St → Hp → Prop, (∀ σ H2, Ex H1 H2 → EnvOk H2 σ ds → N σ H2) → Go tu (ds.set j (some x)) H1 { E with nx := N, ct := N, bk := tz E })
    (hd : ∀ H1, Ex H H1 → Go tz ds H1 E) : Go (tSeq (tFor (iList K tl) (gName j) tu) tz) ds H E := fun σ H1 e n =>
  hl σ H1 e n _ fun v H2 e2 hv => by
    obtain ⟨a, vs, rfl, ha, il⟩ := hv
    refine ⟨a, rfl, ⟨vs, SqL.of ha⟩, for_list (xs := vs) (fun i σ' H' => Ex H2 H' ∧ EnvOk H' σ' ds) ⟨Same.refl _, n.mono e2⟩ (fun i σ' H' _ p => SqL.of (p.1 _ _ ha)) (fun i x σ' H' hx p => ?_) fun σ' H' p => ?_⟩
    · obtain ⟨d, hd, hx'⟩ := (il.mono p.1).getV hx
      exact hs i d H' hd ((e.trans e2).trans p.1) _ (fun σ2 H3 e3 n3 => ⟨p.1.trans e3, n3⟩) _ H' (Same.refl _) (p.2.set hx' j)
    · exact hd H' ((e.trans e2).trans p.1) σ' H' (Same.refl _) p.2
end Cs
set_option Elab.async false
set_option linter.all false
set_option maxRecDepth 100000
set_option maxHeartbeats 4000000
namespace Cs
open PySem PySem.Spec PyProof.Rows L2
def pathD (ps : List Str) : D := .tup (ps.map D.str)
noncomputable def HS.pathsN (h : HS) (j : Nat) : List (List Str) := ((List.range j).filter fun m : Nat => h.there (m : Int)).map fun m : Nat => h.pathL (m : Int)
theorem pathsN_succ (h : HS) (j : Nat) : h.pathsN (j + 1) = if h.there (j : Int) = true then h.pathsN j ++ [h.pathL j] else h.pathsN j := by
  unfold HS.pathsN
  rw [List.range_succ, List.filter_append]
  by_cases c : h.there (j : Int) = true
  · rw [if_pos c]
    simp [c]
  · rw [if_neg c]
    simp [c]
theorem pathsN_len (h : HS) (j : Nat) : (h.pathsN j).length ≤ j := by
  unfold HS.pathsN
  rw [List.length_map]
  have := List.length_filter_le (fun m : Nat => h.there (m : Int)) (List.range j)
  rw [List.length_range] at this
  exact this
theorem mem_pathsN {h : HS} {j : Nat} {m : Nat} (hm : m < j) (ht : h.there (m : Int) = true) : h.pathL (m : Int) ∈ h.pathsN j := by
  unfold HS.pathsN
  exact List.mem_map.mpr ⟨m, List.mem_filter.mpr ⟨List.mem_range.mpr hm, ht⟩, rfl⟩
theorem pathsN_ne {h : HS} (tr : Tree h) {j : Nat} {ps : List Str} (hp : ps ∈ h.pathsN j) : ∃ n, ps.length = n + 1 := by
  unfold HS.pathsN at hp
  obtain ⟨m, hm, rfl⟩ := List.mem_map.mp hp
  obtain ⟨qs, q⟩ := path_ex tr (List.mem_filter.mp hm).2
  rw [pathL_eq q]
  cases q with
  | step _ _ => exact ⟨_, by rw [List.length_append]; rfl⟩
/-- a path that is none of these leads nowhere -/
theorem at_strange {h : HS} {b : Nat} (i : HInv h b) {j : Nat} (hj : h.count < (j : Int)) {ps : List Str} (hn : (((h.pathsN j).map pathD).any fun z => eqD z (pathD ps)) = false) : h.atL none ps = none := by
  cases e : h.atL none ps with
  | none => rfl
  | some k =>
    obtain ⟨ht, hp⟩ := at_some e
    obtain ⟨rr, hrr⟩ := there_row ht
    obtain ⟨k0, k1⟩ := i.kb k (get_keyI hrr)
    have hk : h.pathL ((k.toNat : Nat) : Int) ∈ h.pathsN j := mem_pathsN (by omega) (by rw [Int.toNat_of_nonneg (by omega)]; exact ht)
    rw [Int.toNat_of_nonneg (by omega), hp] at hk
    have : (((h.pathsN j).map pathD).any fun z => eqD z (pathD ps)) = true := List.any_eq_true.mpr ⟨pathD ps, List.mem_map.mpr ⟨ps, hk, rfl⟩, eqD_self _⟩
    rw [hn] at this
    cases this
theorem ninv_via {h h' : HS} (v : Via h h') (nv : NInv h) : NInv h' := v.inv nv fun h1 h2 b dd d i hb ok oa e n => ninv_told i hb n ok oa e
theorem go_weak {t : TS} {ds ds' : List (Option D)} {H : Hp} {E : Ends} (w : ∀ H' σ, EnvOk H' σ ds → EnvOk H' σ ds') (g : Go t ds' H E) : Go t ds H E := fun σ H1 e n => g σ H1 e (w _ _ n)
theorem path_vis {h : HS} {rank : Int → Nat} (hr : ∀ k r p, get h.rows k = some r → h.there k = true → r.par = some p → h.there p = true ∧ rank p < rank k) {o : Option Int} {ps : List Str} (p : PathTo h o ps) : ∀ k, o = some k → h.there k = true → ∃ vis : List Int, vis.Nodup ∧ (∀ v ∈ vis, v ∈ h.keys ∧ rank v ≤ rank k) ∧ vis.length = ps.length := by
  induction p with
  | nil => intro k hk; cases hk
  | @step k r ps hrk p ih =>
    intro k' hk' ht
    cases hk'
    cases hp : r.par with
    | none =>
      rw [hp] at p
      cases p
      exact ⟨[k], by simp, fun v hv => by
        rw [List.mem_singleton] at hv
        rw [hv]
        exact ⟨get_keyI hrk, Nat.le_refl _⟩, rfl⟩
    | some q =>
      obtain ⟨htq, hlt⟩ := hr k r q hrk ht hp
      obtain ⟨vis, nd, sub, len⟩ := ih q hp htq
      refine ⟨k :: vis, List.nodup_cons.mpr ⟨fun m => ?_, nd⟩, fun v hv => ?_, by simp [len]⟩
      · have := (sub k m).2
        omega
      · rcases List.mem_cons.mp hv with z | z
        · rw [z]
          exact ⟨get_keyI hrk, Nat.le_refl _⟩
        · have := sub v z
          exact ⟨this.1, by omega⟩
theorem pathL_len {h : HS} (tr : Tree h) {n : Int} (ht : h.there n = true) : (h.pathL n).length ≤ h.rows.length := by
  obtain ⟨ps, p⟩ := path_ex tr ht
  rw [pathL_eq p]
  obtain ⟨rank, hr⟩ := tr
  obtain ⟨vis, nd, sub, len⟩ := path_vis hr p n rfl ht
  have := sub_lenI nd fun v hv => (sub v hv).1
  have h2 : h.keys.length = h.rows.length := by unfold HS.keys; rw [List.length_map]
  omega
theorem pathD_dep {ps : List Str} (h : ps.length < 64) : dep 5 (pathD ps) = true := dep_T (by rw [List.length_map]; omega) fun x hx => by
  obtain ⟨q, _, rfl⟩ := List.mem_map.mp hx
  exact dep_flat rfl
theorem pathR_dep {h : HS} (tr : Tree h) (hl : h.rows.length < 64) (n : Int) : dep 5 (h.pathR n).toldP = true := by
  unfold HS.pathR
  split
  · rename_i ht
    exact pathD_dep (by have := pathL_len tr ht; omega)
  · exact dep_flat rfl
theorem pathD_pure (ps : List Str) : (pathD ps).pure = true := strs_pureL ps
theorem paths_pure (l : List (List Str)) : D.pureL (l.map pathD) = true := by
  induction l with
  | nil => rfl
  | cons x r ih => exact (by rw [List.map_cons]; show (_ && _) = true; rw [ih, pathD_pure]; rfl)
def addS (z : Str) : D → D
  | .tup xs => .tup (xs ++ [.str z])
  | d => d
def initD : D → D
  | .tup xs => .tup (xs.take (xs.length - 1))
  | d => d
def tailD : D → D
  | .tup xs => .tup (xs.drop 1)
  | d => d
theorem addS_path (z : Str) (ps : List Str) : addS z (pathD ps) = pathD (ps ++ [z]) := by
  show D.tup _ = D.tup _
  rw [List.map_append]
  rfl
theorem init_path (ps : List Str) : initD (pathD ps) = pathD (ps.take (ps.length - 1)) := by
  show D.tup _ = D.tup _
  rw [List.map_take, List.length_map]
theorem tail_path (ps : List Str) : tailD (pathD ps) = pathD (ps.drop 1) := by
  show D.tup _ = D.tup _
  rw [List.map_drop]
theorem addS_pure (z : Str) (ps : List Str) : (addS z (pathD ps)).pure = true := by rw [addS_path]; exact pathD_pure _
theorem map_addS (z : Str) (l : List (List Str)) : (l.map pathD).filterMap (fun d => some (addS z d)) = l.map fun ps => pathD (ps ++ [z]) := by
  rw [List.filterMap_eq_map', List.map_map]
  exact List.map_congr_left fun ps _ => addS_path z ps
theorem map_addI (z : Str) (l : List (List Str)) : (l.map pathD).filterMap (fun d => some (addS z (initD d))) = l.map fun ps => pathD (ps.take (ps.length - 1) ++ [z]) := by
  rw [List.filterMap_eq_map', List.map_map]
  exact List.map_congr_left fun ps _ => by show addS z (initD (pathD ps)) = _; rw [init_path, addS_path]
theorem map_tail (l : List (List Str)) : (l.map pathD).filterMap (fun d => some (tailD d)) = l.map fun ps => pathD (ps.drop 1) := by
  rw [List.filterMap_eq_map', List.map_map]
  exact List.map_congr_left fun ps _ => tail_path ps
theorem law_ok {P : Program} {w : World} {K : PySem.W.Frag} {mg : Str → Option Value} {base : Heap} (S : Says K mg) {fd : FuncData} (FL : FunD K "law" "law" (defArgs s_law) (defBody s_law) (defScope s_law) [] [] (He.fAd K ("law", none)) fd) : FnOk P w K mg base (L2.CX P w) 11 (He.fAd K ("law", none)) fd ["script"] (sp_law K) := by
  have G_House___init__ := ok_House___init__ (P := P) (w := w) (base := base) S
  have G_House_at := ok_House_at (P := P) (w := w) (base := base) S
  have G_law_begin := ok_law_begin (P := P) (w := w) (base := base) S
  have G_law_cells := okN_law_cells (P := P) (w := w) (base := base) S
  have G_law_run := ok_law_run (P := P) (w := w) (base := base) S
  have G_law_there := ok_law_there (P := P) (w := w) (base := base) S
  have G_law_same := ok_law_same (P := P) (w := w) (base := base) S
  have G_law_path := ok_law_path (P := P) (w := w) (base := base) S
  have G_law_names_to := ok_law_names_to (P := P) (w := w) (base := base) S
  refine mk_law FL sc_law (fun vs H Q E h => ?_) fun cdv A outer s H vs Q E bd h => ?_
  · obtain ⟨a, ns, rfl, _⟩ := h
    rfl
  · obtain ⟨a, ns, rfl, hS, hQ⟩ := h
    obtain ⟨hr, tk, px, hu, hu65⟩ := bd
    refine ⟨_, (pss_cons (ps_for (passes_of rfl) rfl (pi_range1 (by rfl) S.free_range (pa_cons (pe_int) pa_nil)) (pg_name (i := 1) sc_law.nd rfl (Or.inl rfl)) (pss_cons (ps_par (by rfl) sc_law.nd (i := 2) (j := 3) rfl rfl (by decide) rfl rfl (pa_cons (pe_mf S.mk_House G_House___init__ (hr.mono (by decide)) (by rfl) S.glo_House passL (pa_cons (pe_int) (pa_cons (pe_int) pa_nil))) (pa_cons (pe_cf G_law_begin (hr.mono (by decide)) (by rfl) S.glo__law_begin px (pa_cons (pe_int) (pa_cons (pe_int) pa_nil))) pa_nil)) (by rfl))
      (pss_cons (ps_if (pt_not (pt_val (pe_cf G_law_run (hr.mono (by decide)) (by rfl) S.glo__law_run px (pa_cons (pv 2) (pa_cons (pv 3) (pa_cons (pe_cf G_law_cells (hr.mono (by decide)) (by rfl) S.glo__law_cells px (pa_cons (pv 0) (pa_cons (pv 1) (pa_cons (pe_int) pa_nil)))) (pa_cons (pe_tup (pa_cons (pe_str) pa_nil)) pa_nil))))))) (pss_one (ps_ret (pe_bl))) pss_nil)
      (pss_cons (ps_if (pt_not (pt_val (pe_cf G_law_run (hr.mono (by decide)) (by rfl) S.glo__law_run px (pa_cons (pv 2) (pa_cons (pv 3) (pa_cons (pe_cf G_law_cells (hr.mono (by decide)) (by rfl) S.glo__law_cells px (pa_cons (pv 0) (pa_cons (pe_op op_add (pv 1) (pe_int)) (pa_cons (pe_int) pa_nil)))) (pa_cons (pe_tup (pa_cons (pe_str) (pa_cons (pe_str) (pa_cons (pe_str) pa_nil)))) pa_nil))))))) (pss_one (ps_ret (pe_bl))) pss_nil)
      (pss_cons (ps_set (i := 4) sc_law.nd rfl (Or.inl rfl) (pe_lst pa_nil))
      (pss_cons (ps_for (passes_of rfl) rfl (pi_range1 (by rfl) S.free_range (pa_cons (pe_op op_add (pe_dget hu (pv 3) (pe_str) (fun _ _ => rfl)) (pe_int)) pa_nil)) (pg_name (i := 5) sc_law.nd rfl (Or.inl rfl)) (pss_cons (ps_set (i := 6) sc_law.nd rfl (Or.inl rfl) (pe_str))
      (pss_cons (ps_if (pt_val (pe_cf G_law_there (hr.mono (by decide)) (by rfl) S.glo__law_there px (pa_cons (pv 3) (pa_cons (pv 5) pa_nil)))) (pss_cons (ps_set (i := 6) sc_law.nd rfl (Or.inl rfl) (pe_cf G_law_names_to (hr.mono (by decide)) (by rfl) S.glo__law_names_to px (pa_cons (pv 3) (pa_cons (pv 5) pa_nil))))
      (pss_cons (ps_expr (pe_bm PySem.F.plainAttrs_list PySem.F.slot_list_append PySem.F.type_list_append mt_append (pv 4) (pa_cons (pv 6) pa_nil)))
      (pss_one (ps_if (pt_not (pt_val (pe_cf G_law_same (hr.mono (by decide)) (by rfl) S.glo__law_same px (pa_cons (pe_mt (pv 2) S.cls_House S.meth_at G_House_at (hr.mono (by decide)) px (pa_cons (pv 6) pa_nil)) (pa_cons (pv 5) pa_nil))))) (pss_one (ps_ret (pe_bl))) pss_nil)))) pss_nil)
      (pss_one (ps_if (pt_not (pt_val (pe_cf G_law_same (hr.mono (by decide)) (by rfl) S.glo__law_same px (pa_cons (pe_cf G_law_path (hr.mono (by decide)) (by rfl) S.glo__law_path px (pa_cons (pv 2) (pa_cons (pv 5) pa_nil))) (pa_cons (pv 6) pa_nil))))) (pss_one (ps_ret (pe_bl))) pss_nil)))))
      (pss_cons (ps_set (i := 7) sc_law.nd rfl (Or.inl rfl) (pe_op op_cat (pe_lc (own := [("one", 9)]) (g := (gName 9)) (tt := tYes) (te := (tOp (rCatA K) (tVar 9) (tTup (tCons (tC (.str "a")) tNil)))) rfl sc_law.nd (pi_list (pv 4)) (blkOk_by (N := ["script", "k", "house", "state", "paths", "number", "due", "strange", "path", "one"]) (sc := defScope s_law) (by decide +kernel)) (fun _ _ _ _ _ => (pg_name (i := 9) sc_law.nd rfl (Or.inl rfl))) (fun _ _ _ _ _ => pts_nil) (fun _ _ _ _ _ => (pe_op op_catA (pv 9) (pe_tup (pa_cons (pe_str) pa_nil))))) (pe_lc (own := [("one", 9)]) (g := (gName 9)) (tt := tYes) (te := (tOp (rCatA K) (tSl (rSlT K) (tVar 9) tNoPart (tPart (tUn (rU fun i => .int (-i)) (tC (.int 1))))) (tTup (tCons (tC (.str "no")) tNil)))) rfl sc_law.nd (pi_list (pv 4)) (blkOk_by (N := ["script", "k", "house", "state", "paths", "number", "due", "strange", "path", "one"]) (sc := defScope s_law) (by decide +kernel)) (fun _ _ _ _ _ => (pg_name (i := 9) sc_law.nd rfl (Or.inl rfl))) (fun _ _ _ _ _ => pts_nil) (fun _ _ _ _ _ => (pe_op op_catA (pe_slice sl_tup (pv 9) po_none (po_some (pe_un un_neg (pe_int)))) (pe_tup (pa_cons (pe_str) pa_nil)))))))
      (pss_one (ps_for (passes_of rfl) rfl (pi_list (pe_op op_cat (pv 7) (pe_lc (own := [("one", 9)]) (g := (gName 9)) (tt := tYes) (te := (tSl (rSlT K) (tVar 9) (tPart (tC (.int 1))) tNoPart)) rfl sc_law.nd (pi_list (pv 4)) (blkOk_by (N := ["script", "k", "house", "state", "paths", "number", "due", "strange", "path", "one"]) (sc := defScope s_law) (by decide +kernel)) (fun _ _ _ _ _ => (pg_name (i := 9) sc_law.nd rfl (Or.inl rfl))) (fun _ _ _ _ _ => pts_nil) (fun _ _ _ _ _ => (pe_slice sl_tup (pv 9) (po_some (pe_int)) po_none))))) (pg_name (i := 8) sc_law.nd rfl (Or.inl rfl)) (pss_one (ps_if (PW.pt (pw_and (pt_cmpR (op_notInQ hu65) (pv 8) (pv 4) rfl) (pw_and1 (pt_cmp (pc_notN (pe_mt (pv 2) S.cls_House S.meth_at G_House_at (hr.mono (by decide)) px (pa_cons (pv 8) pa_nil))))))) (pss_one (ps_ret (pe_bl))) pss_nil)))))))))))
      (pss_one (ps_ret (pe_cmp (pc_isN (pe_mt (pv 2) S.cls_House S.meth_at G_House_at (hr.mono (by decide)) px (pa_cons (pe_tup pa_nil) pa_nil))) rfl)))), ?_⟩
    have env : EnvOk H (start ["script", "k", "house", "state", "paths", "number", "due", "strange", "path", "one"] [.ref a]) [some (.obj a), none, none, none, none, none, none, none, none, none] := ⟨rfl, trivial⟩
    refine go_forRg (m := 4) (ι := Option (Addr × HS × Foot)) (ea_cons ev_int ea_nil) (by decide) (by decide) (fun j s H' => SqL K H' a (ns.map V.int) ∧ match s with | none => j = 0 | some (p, h, F) => HRd (hC K) H' p F h ∧ h.rows.length < 64) (fun s => match s with | none => [some (.obj a), none, none, none, none, none, none, none, none, none] | some (p, _, _) => [some (.obj a), none, some (.obj p), none, none, none, none, none, none, none]) none rfl (fun H' e => ⟨e.seq hS, rfl⟩) (fun i s H1 N hi ps hN => ?_) (fun s H1 ps => ?_) _ H (Same.refl _) env
    · obtain ⟨hS1, _⟩ := ps
      refine go_weak (ds' := [some (.obj a), some (.int (i : Int)), none, none, none, none, none, none, none, none]) (fun H' σ n => ?_) ?_
      · cases s with
        | none => exact n
        | some q =>
          obtain ⟨p, h, F⟩ := q
          exact n.forget 2
      refine go_pair ev_int ev_int ev_int ev_int fun p q F G H2 fr0 e2 r2 => ?_
      have hS2 := e2.seq hS1
      have na : a ∈ fp p F ++ sfp q G → H1 a = none := fr0 a
      refine go_runV (ws := [.make]) r2 (ev_var rfl) (ev_var rfl) hS2 (ev_var rfl) (ev_var rfl) ev_int (by omega) (by decide) (by decide) (ev_tup (ea_cons ev_str ea_nil) (by simp)) (by simp) (by decide) (by decide) rfl fun h3 H3 F3 G3 r3 fr3 via3 => ?_
      have hS3 : SqL K H3 a (ns.map V.int) := SqL.frame hS1 (Fr.ex_trans e2 r3.fr) na
      refine go_runV (f := (i : Int) + 1) (ws := [.move, .rename, .cast]) r3 (ev_var rfl) (ev_var rfl) hS3 (ev_var rfl) (ev_op (ev_var rfl) ev_int op_addI) ev_int (by omega) (by decide) (by decide) (ev_tup (ea_cons ev_str (ea_cons ev_str (ea_cons ev_str ea_nil))) (by simp)) (by simp) (by decide) (by decide) rfl fun h4 H4 F4 G4 r4 fr4 via4 => ?_
      have hS4 : SqL K H4 a (ns.map V.int) := SqL.frame hS1 (Fr.ex_trans e2 r4.fr) na
      have nv : NInv h4 := ninv_via via4 (ninv_via via3 (ninv_empty _ _))
      have tr : Tree h4 := r4.iv.tree
      have b64 : bnd (bnd 0 (9 : Int).toNat) (6 : Int).toNat < 64 := by decide
      have hrl : h4.rows.length < 64 := Nat.lt_of_le_of_lt r4.iv.rl b64
      have c0 := r4.iv.c0
      have hcm : h4.count + 2 ≤ 1000 := by
        have cb4 := r4.cb
        have : (bnd (bnd 0 (9 : Int).toNat) (6 : Int).toNat : Int) < 64 := by exact_mod_cast b64
        omega
      refine go_asgNew (el_lst (xs := []) ea_nil (by simp)) fun l vs0 H5 hl5 e5 hv5 il5 => ?_
      cases (show _ = _ from il5)
      -- all numbers
      refine go_forRg (m := h4.count + 2) (ι := List V) (ea_cons (ev_op (ev_is (s_count (r4.sa.mono e5).rd (ev_var rfl)) rfl) ev_int op_addI) ea_nil) (by omega) (by omega) (fun j vs H' => Ex H4 H' ∧ H' l = some (.lst vs) ∧ IsL H' ((h4.pathsN j).map pathD) vs) (fun _ => [some (.obj a), some (.int (i : Int)), some (.obj p), some (.obj q), some (.obj l), none, none, none, none, none]) [] rfl (fun H' e => ⟨e5.trans e, e _ _ hv5, rfl⟩) (fun m vs H6 N2 hm q6 hN2 => ?_) (fun vs H6 q6 => ?_)
      · obtain ⟨e6, hl6, il6⟩ := q6
        refine go_asg ev_str ?_
        have fin : ∀ (d : D) (vs' : List V) (H7 : Hp), d = (h4.pathR m).toldP → Ex H4 H7 → H7 l = some (.lst vs') → IsL H7 ((h4.pathsN (m + 1)).map pathD) vs' → ∀ E' : Ends, E'.nx = N2 → Go (tIfS (tNot (tB (tCall (sp_law_same K) [] E (tCons (tCall (sp_law_path K) [] E (tCons (tVar 2) (tCons (tVar 5) tNil))) (tCons (tVar 6) tNil))))) (tRet (tC (.bl false))) tNext) [some (.obj a), some (.int (i : Int)), some (.obj p), some (.obj q), some (.obj l), some (.int (m : Int)), some d, none, none, none] H7 E' := fun d vs' H7 hd e7 hl7 il7 E' hE => by
          subst hd
          refine go_if (b := false) (eb_is (eb_not (eb_B (s_same (pathR_dep tr hrl m) (ev_call (ea_cons (ev_var rfl) (ea_cons (ev_var rfl) ea_nil)) (rsp_pr fun H' e' => ⟨p, F4, h4, m, rfl, (r4.ha.mono (e7.trans e')).rd, tr, hrl, rfl⟩)) (ev_var rfl)))) rfl) (fun z => by cases z) (fun _ => ?_)
          refine go_next fun σ H8 e8 n8 => ?_
          rw [hE]
          exact hN2 vs' σ H8 ⟨e7.trans e8, e8 _ _ hl7, il7.mono e8⟩ ((n8.forget 5).forget 6)
        have x6 := r4.sa.mono e6
        have y6 := r4.ha.mono e6
        refine go_when (b := h4.there m) (eb_is (eb_B (s_there x6.rd (ev_var rfl) (ev_var rfl))) (abs_there h4 m)) (fun c => ?_) (fun c => ?_)
        · refine go_asg (x := pathD (h4.pathL m)) (ev_call (ea_cons (ev_var rfl) (ea_cons (ev_var rfl) ea_nil)) (rsp_pr fun H' e' => ⟨q, G4, h4, m, rfl, (x6.mono e').rd, tr, hrl, c, rfl⟩)) ?_
          have pn := pathsN_len h4 m
          refine go_append (xs := (h4.pathsN m).map pathD) hl6 il6 (by rw [List.length_map]; omega) (paths_pure _) (pathD_pure _) (by show (true && (true && (true && (true && (true && (true && ((pathD (h4.pathL m)).pure && true))))))) = true; rw [pathD_pure]; rfl) (ev_var rfl) (ev_var rfl) fun u H7 b7 hl7 il7 => ?_
          have e7 : Ex H4 H7 := e6.but hl5 b7
          refine go_last (go_when (b := false) (eb_is (eb_not (eb_B (s_same (x := .int (m : Int)) (dep_flat rfl) (ev_is (e_at (ps := h4.pathL m) (r4.ha.mono e7).rd hrl (ev_var rfl) (ev_var rfl)) (by rw [at_pathL nv tr c]; rfl)) (ev_var rfl)))) rfl) (fun z => by cases z) (fun _ => ?_))
          refine go_next fun σ H8 e8 n8 => ?_
          refine fin _ (vs ++ [u]) H8 ?_ (e7.trans e8) (e8 _ _ hl7) ?_ _ rfl σ H8 (Same.refl _) n8
          · unfold HS.pathR
            rw [if_pos c]
            rfl
          · rw [pathsN_succ, if_pos c, List.map_append]
            exact il7.mono e8
        · refine fin (.str "no thing") vs H6 ?_ e6 hl6 ?_ _ rfl
          · unfold HS.pathR
            rw [if_neg (by rw [c]; exact Bool.false_ne_true)]
            exact congrArg D.str w_NoThing.symm
          · rw [pathsN_succ, if_neg (by rw [c]; exact Bool.false_ne_true)]
            exact il6
      · obtain ⟨e6, hl6, il6⟩ := q6
        have mt : (h4.count + 2).toNat = (h4.count + 2).toNat := rfl
        generalize hJ : (h4.count + 2).toNat = J at il6
        have hcJ : h4.count < (J : Int) := by omega
        have pn := pathsN_len h4 J
        have isf : Is H6 (.lst ((h4.pathsN J).map pathD)) (.ref l) := ⟨l, _, rfl, hl6, il6⟩
        have hL : ∀ {ds : List (Option D)} {H' : Hp}, Ex H6 H' → ds[4]? = some (some (.obj l)) → EvD (tVar 4) ds H' (.lst ((h4.pathsN J).map pathD)) := fun e i4 => ev_as (ev_var i4) (isf.mono e)
        have hlen : ((h4.pathsN J).map pathD).length < 2000 := by rw [List.length_map]; omega
        have pl : ∀ ps ∈ h4.pathsN J, ps.length < 64 := fun ps hp => by
          unfold HS.pathsN at hp
          obtain ⟨m, hm, rfl⟩ := List.mem_map.mp hp
          have := pathL_len tr (List.mem_filter.mp hm).2
          omega
        have c1 : EvL (tLc (iList K (tVar 4)) (gName 9) tYes (tOp (rCatA K) (tVar 9) (tTup (tCons (tC (.str "a")) tNil))) [9]) [some (.obj a), some (.int (i : Int)), some (.obj p), some (.obj q), some (.obj l), none, none, none, none, none] H6 ((h4.pathsN J).map fun ps => pathD (ps ++ [("a" : Str)])) := by
          rw [← map_addS]
          refine el_lcL (fun d => some (addS "a" d)) (hL (Same.refl _) rfl) (by omega) (fun x hx => eb_yes) (fun x hx y hy => ?_)
          obtain ⟨ps, hp, rfl⟩ := List.mem_map.mp hx
          cases hy
          have := pl ps hp
          exact ⟨ev_op (ev_var rfl) (ev_tup (ea_cons ev_str ea_nil) (by simp)) (op_catAD (by simp; omega)), addS_pure _ _⟩
        have c2 : EvL (tLc (iList K (tVar 4)) (gName 9) tYes (tOp (rCatA K) (tSl (rSlT K) (tVar 9) tNoPart (tPart (tUn (rU fun i => .int (-i)) (tC (.int 1))))) (tTup (tCons (tC (.str "no")) tNil))) [9]) [some (.obj a), some (.int (i : Int)), some (.obj p), some (.obj q), some (.obj l), none, none, none, none, none] H6 ((h4.pathsN J).map fun ps => pathD (ps.take (ps.length - 1) ++ [("no" : Str)])) := by
          rw [← map_addI]
          refine el_lcL (fun d => some (addS "no" (initD d))) (hL (Same.refl _) rfl) (by omega) (fun x hx => eb_yes) (fun x hx y hy => ?_)
          obtain ⟨ps, hp, rfl⟩ := List.mem_map.mp hx
          cases hy
          have := pl ps hp
          obtain ⟨n0, hn0⟩ := pathsN_ne tr hp
          refine ⟨?_, by rw [init_path]; exact addS_pure _ _⟩
          have e1 : initD (pathD ps) = .tup ((ps.map D.str).take n0) := by
            show D.tup _ = D.tup _
            rw [List.length_map, hn0]
            rfl
          rw [e1]
          exact ev_op (ev_init (xs := ps.map D.str) (n := n0) (by rw [List.length_map, hn0]) (ev_var rfl)) (ev_tup (ea_cons ev_str ea_nil) (by simp)) (op_catAD (by simp; omega))
        refine go_asg (el_cat c1.d c2.d (by rw [List.length_map, List.length_map]; omega)).d ?_
        have c3 : EvL (tLc (iList K (tVar 4)) (gName 9) tYes (tSl (rSlT K) (tVar 9) (tPart (tC (.int 1))) tNoPart) [9]) [some (.obj a), some (.int (i : Int)), some (.obj p), some (.obj q), some (.obj l), none, none, some (.lst (((h4.pathsN J).map fun ps => pathD (ps ++ [("a" : Str)])) ++ ((h4.pathsN J).map fun ps => pathD (ps.take (ps.length - 1) ++ [("no" : Str)])))), none, none] H6 ((h4.pathsN J).map fun ps => pathD (ps.drop 1)) := by
          rw [← map_tail]
          refine el_lcL (fun d => some (tailD d)) (hL (Same.refl _) rfl) (by omega) (fun x hx => eb_yes) (fun x hx y hy => ?_)
          obtain ⟨ps, hp, rfl⟩ := List.mem_map.mp hx
          cases hy
          obtain ⟨n0, hn0⟩ := pathsN_ne tr hp
          cases ps with
          | nil => cases hn0
          | cons z r => exact ⟨ev_tail (ev_var rfl), pathD_pure r⟩
        refine go_last (go_forLd (el_cat (ev_var rfl) c3.d (by rw [List.length_append, List.length_map, List.length_map, List.length_map]; omega)).d (fun jj x H7 hx e7 N3 hN3 => ?_) (fun H7 e7 => ?_))
        · have hxp : ∃ ps : List Str, x = pathD ps := by
            have hm := List.mem_of_getElem? hx
            rcases List.mem_append.mp hm with z | z
            · rcases List.mem_append.mp z with z | z
              · obtain ⟨ps, _, rfl⟩ := List.mem_map.mp z
                exact ⟨_, rfl⟩
              · obtain ⟨ps, _, rfl⟩ := List.mem_map.mp z
                exact ⟨_, rfl⟩
            · obtain ⟨ps, _, rfl⟩ := List.mem_map.mp z
              exact ⟨_, rfl⟩
          obtain ⟨ps, rfl⟩ := hxp
          have dl : dpt 2 (.lst ((h4.pathsN J).map pathD)) = true := dpt_lst fun z hz => by
            obtain ⟨qs, _, rfl⟩ := List.mem_map.mp hz
            exact strs_dptT qs
          refine go_if (b := false) (eb_is (eb_and (b := !(((h4.pathsN J).map pathD).any fun z => eqD z (pathD ps))) (c := false) (eb_test (ev_op (ev_var rfl) (hL e7 rfl) (op_notInDD (n := 1) (m := 2) (strs_dptT ps) dl (by decide)))) fun c => eb_is (eb_B (ev_notN (e_at (ps := ps) (r4.ha.mono (e6.trans e7)).rd hrl (ev_var rfl) (ev_var rfl)) (notN_oI (h4.atL none ps)))) (by rw [at_strange r4.iv hcJ (by simpa using c)]; rfl)) (by simp)) (fun z => by cases z) (fun _ => go_next fun σ H8 e8 n8 => hN3 σ H8 e8 (n8.forget 8))
        · refine go_next fun σ H8 e8 n8 => ?_
          have e48 := (e6.trans e7).trans e8
          exact hN (some (p, h4, F4)) σ H8 ⟨e48.seq hS4, (r4.ha.mono e48).rd, hrl⟩ ((((n8.forget 1).forget 3).forget 4).forget 7)
    · obtain ⟨hS1, ps⟩ := ps
      cases s with
      | none => cases ps
      | some q =>
        obtain ⟨p, h, F⟩ := q
        obtain ⟨x1, hrl⟩ := ps
        refine go_ret (d := .bl true) (ev_is (ev_isN (e_at (ps := []) x1 hrl (ev_var rfl) (ev_tup (as := []) ea_nil (by simp))) fun _ _ z => by cases (show _ = _ from z); rfl) rfl) fun v H2 e2 hv => by cases (show _ = _ from hv); exact hQ H2
end Cs
set_option Elab.async false
set_option linter.all false
set_option maxRecDepth 100000
set_option maxHeartbeats 4000000
namespace Cs
open PySem PySem.Spec PyProof.Rows L2
abbrev R : PySem.W.OpenRow := PySem.W.OpenLaw.row PySem.Challenge.rw_castshelf_k03_paths
abbrev hk : PySem.W.Hook := He.hookX 5 fa fn [] [] ex
def ob (s : PySem.W.SharedT) : He.AlX := He.obsX 5 fa fn [] [] ex (HandSHeadRun.getT s)
theorem ob_eq (s : PySem.W.SharedT) : ob s = hk.obs s.abs := He.obsX_eq (HandSHeadRun.getT_eq s)
def loose1 : List Str := ["__name__", "HouseError", "NoThing", "NoBox", "NoSheet", "Taken", "Inside", "NoRoom", "Same", "NoTie", "NoCast", "free_name", "House", "_law_cell", "_law_mix", "_law_same", "_law_word", "_law_call", "_law_told", "_law_begin", "_law_there", "_law_no_box", "_law_names", "_law_free", "_law_within", "_law_used", "_law_lose", "_law_no_room", "_law_do", "_law_make"]
def loose2 : List Str := ["_law_place", "_law_write", "_law_copy", "_law_tie", "_law_shelve", "_law_shelf", "_law_is_as", "_law_number", "_law_parent", "_law_letters", "_law_deed", "_law_run", "_law_cells", "_law_path", "_law_names_to"]
def loose : List Str := loose1 ++ loose2
set_option maxHeartbeats 0 in
theorem run (w : World) : HandSHeadRun.RunEq R (PySem.W.view R.prog [48]) hk ob 8000 loose w := by
  intro os
  kernel_rfl
end Cs
set_option Elab.async false
set_option linter.all false
set_option maxRecDepth 100000
set_option maxHeartbeats 0
namespace Cs
open PySem PySem.Spec PyProof.Rows L2
theorem cx_no {P : Program} {w : World} {H : Hp} {s : Shared} {e : Value} {s' : Shared} (h : L2.CX P w [] H s (fun _ _ _ => False) e s') : False := by
  obtain ⟨_, _, _, _, _, _, _, _, _, _, _, _, z⟩ := h
  exact z
/-- the end of a law whose def keeps sp_law, where the exceptions' context leans on the world -/
theorem end_of {l : PySem.W.OpenLaw} {k : Nat} {q : Program} {ls : List Str} {XP : (Str → Option Value) → Heap → Prop} {YP : World → Heap → Prop} {d : DefRec} (hm : l.most = some 63) (hd : d.params.defaults = []) (hr : Room k callerA)
    (F : ∀ w mg f h, YP w h → h.Ns mainGlobals mg → mg d.name = some (.ref f) → ∃ K fd, K.In h ∧ (∀ s u, BindsTo s fd ⟨[u], []⟩ [("script", u)]) ∧ ∀ base, FnOk l.prog w K mg base (L2.CX l.prog w) k f fd ["script"] (sp_law K)) :
    PySem.W.WalkO q ls XP YP l.row.toRowW d [] fun g us => PySem.call g us :=
  Att.attach_call hm hd fun w s0 s1 mg mb f o pm cd doc a us ns G Y h1 h2 h3 hg h4 h5 hl h6 => by
    obtain ⟨K, fd, X, b, ok⟩ := F w mg f _ Y G.T.g hg
    exact law_call X G.T.g G.T.b G.T.builtins G.T.nolimit h6 h4 h5 (Nat.le_trans hl (by decide)) hr (fun base _ _ => ok base) b (fun H _ hS => ⟨a, ns, rfl, hS, fun _ => rfl⟩) fun H e s' z => cx_no z
end Cs
open PySem PySem.W PySem.Calls PyProof.Rows
theorem PySem.Challenge.cw_castshelf_k03_paths_holds : PySem.Challenge.rw_castshelf_k03_paths.Holds := by
  w_on; o_law
  refine HandSHeadRun.head_any (r := OpenLaw.row PySem.Challenge.rw_castshelf_k03_paths) (q := view (OpenLaw.row PySem.Challenge.rw_castshelf_k03_paths).prog [48]) (H := Cs.hk) (ob := Cs.ob) (M := 8000) (loose := Cs.loose) (d := HandSHeadRun.topDef (OpenLaw.row PySem.Challenge.rw_castshelf_k03_paths).prog 48) (kwd := []) Cs.ob_eq
    (by kernel_rfl) (fun s => by kernel_rfl) Cs.run (by kernel_rfl) (by kernel_rfl) (by kernel_rfl) (by rfl) (by first | assumption | decide +kernel) (by decide +kernel) ⟨rfl, rfl, rfl, rfl, rfl, by decide +kernel⟩ ?hw ?hc
  case hw => w_witness2
  case hc =>
    refine Cs.end_of (l := PySem.Challenge.rw_castshelf_k03_paths) (k := 11) rfl (by kernel_rfl) ⟨rfl, by decide, by decide⟩ fun w mg f h Y G hg => ?_
    obtain ⟨K, KX, c⟩ := Y
    have S : Cs.Says K mg := ⟨c.t.d, c.more, h, KX, G⟩
    have hl : mg ("law" : PySem.Str) = some (.ref f) := by
      have e : (HandSHeadRun.topDef (OpenLaw.row PySem.Challenge.rw_castshelf_k03_paths).prog 48).name = ("law" : PySem.Str) := by kernel_rfl
      rw [← e]
      exact hg
    cases hl.symm.trans S.glo_law
    obtain ⟨fd, F⟩ := S.c.def_ 71 (d := Cs.d_law) rfl
    have b := L2.FunD.bindsA (ps := ["script"]) F fun _ _ _ _ _ _ us hl => match us, hl with | [_], _ => rfl
    exact ⟨K, fd, KX, fun s v => b s [v] rfl, fun base => Cs.law_ok (P := (PySem.Challenge.rw_castshelf_k03_paths).prog) (w := w) (base := base) S F⟩
