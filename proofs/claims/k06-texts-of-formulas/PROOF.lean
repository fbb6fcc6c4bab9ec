import PyProof.Rows.All
import Wide.All
import OpenK.AllK
import Wide.FinOn
import HandS.ForMost
import HandS.Star
import HandS.Property
import HandS.IsInst
import HandS.Wide
import HandS.EndBits
import HandS.SortKw
import HandS.TupAny
import HandS.ClsMeth
import HandS.FStr
import HandS.RaiseMore
import KE.KMinKey
import HandS.SlotsOwn
import KE.KOpsOwn
import KE.KCallOwn
import KE.KFmtOwn
import PyProof.InstEq
import HandS.StrMore
import HandS.Steps
import HandS.Text
import PySem.Challenge.RW_oneroot_k06_texts_of_formulas
set_option Elab.async false
set_option linter.all false
set_option maxRecDepth 100000
set_option maxHeartbeats 4000000
/-! Od1: pure data D, how values bear it, and what expressions give in such terms. -/
namespace Od
open PySem L2

/-- what a value stands for -/
inductive D where
  | non | bl (b : Bool) | int (i : Int) | str (s : Str) | ref (a : Addr) | ty (n : String)
  | lst (xs : List D) | tup (xs : List D) | obj (c : Str) (ns : List Str) (ds : List D) | dic (ks : List Key) (ds : List D) | scr (ns : List Int)

/-- what a thing that may change holds -/
inductive MC where
  | lst (xs : List D) | obj (c : Str) (ns : List Str) (ds : List D) | dic (ks : List Key) (ds : List D)

/-- a tuple of the written part -/
def KT (K : PySem.W.Frag) (a : Addr) (xs : List V) : Prop :=
  ∃ (o : Obj) (its : Array Value) (n : Nat), K.lookup a = some o ∧ o.cls = .type "tuple" ∧ o.data = .seq its n ∧ its.size ≤ sizeLine ∧ Vals xs its.toList

/-- a list of the written part -/
def KL (K : PySem.W.Frag) (a : Addr) (xs : List V) : Prop :=
  ∃ (o : Obj) (its : Array Value) (n : Nat), K.lookup a = some o ∧ o.cls = .type "list" ∧ o.dict = none ∧ o.data = .seq its n ∧ its.size ≤ sizeLine ∧ Vals xs its.toList

section
variable (K : PySem.W.Frag) (mg : Str → Option Value) (M : Addr → Prop) (H : Hp)
mutual
def R : V → D → Prop
  | v, .non => v = .non
  | v, .bl b => v = .bl b
  | v, .int i => v = .int i
  | v, .str s => v = .str s
  | v, .ref a => v = .ref a
  | v, .ty n => v = .ty n
  | v, .lst ds => ∃ a xs, v = .ref a ∧ ¬ M a ∧ H a = some (.lst xs) ∧ Rs xs ds
  | v, .tup ds => ∃ a xs, v = .ref a ∧ ((¬ M a ∧ H a = some (.tup xs)) ∨ KT K a xs) ∧ Rs xs ds
  | v, .obj c ns ds => ∃ a C dx xs, v = .ref a ∧ ¬ M a ∧ mg c = some (.ref C) ∧ H a = some (.ins C dx (ns.zip xs)) ∧ ns.length = xs.length ∧ Rs xs ds
  | v, .dic ks ds => ∃ a xs, v = .ref a ∧ ¬ M a ∧ H a = some (.dK (ks.zip xs)) ∧ ks.length = xs.length ∧ Rs xs ds
  | v, .scr ns => ∃ a, v = .ref a ∧ ((¬ M a ∧ Rd H a (.lst (ns.map V.int))) ∨ KL K a (ns.map V.int))
def Rs : List V → List D → Prop
  | [], [] => True
  | x :: xs, d :: ds => R x d ∧ Rs xs ds
  | [], _ :: _ => False
  | _ :: _, [] => False
end
def Cell (a : Addr) : MC → Prop
  | .lst ds => ∃ xs, H a = some (.lst xs) ∧ Rs K mg M H xs ds
  | .obj c ns ds => ∃ C dx xs, mg c = some (.ref C) ∧ H a = some (.ins C dx (ns.zip xs)) ∧ ns.length = xs.length ∧ Rs K mg M H xs ds
  | .dic ks ds => ∃ xs, H a = some (.dK (ks.zip xs)) ∧ ks.length = xs.length ∧ Rs K mg M H xs ds
end

abbrev Cs := List (Addr × MC)
abbrev DE := List (Option D)
def Ext (A : List Addr) (H H' : Hp) : Prop := ∀ a o, H a = some o → a ∉ A → H' a = some o
theorem Ext.refl (A : List Addr) (H : Hp) : Ext A H H := fun _ _ h _ => h
theorem Ext.trans {A : List Addr} {H H1 H2 : Hp} (x : Ext A H H1) (y : Ext A H1 H2) : Ext A H H2 := fun a o h n => y a o (x a o h n) n
theorem Ext.mono {A B : List Addr} {H H' : Hp} (x : Ext A H H') (h : ∀ a ∈ A, a ∈ B) : Ext B H H' := fun a o e n => x a o e fun z => n (h a z)
theorem Ext.new {A : List Addr} {H : Hp} {p : Addr} {o : HO} (h : H p = none) : Ext A H (upd H p o) := fun a u e _ => by
  rw [upd_ne (ne_of_none e h)]; exact e

section
variable {K : PySem.W.Frag} {mg : Str → Option Value} {M M' : Addr → Prop} {H H' : Hp}
theorem rd_ext {a : Addr} {u : HO} (k : ∀ o, H a = some o → H' a = some o) (h : Rd H a u) : Rd H' a u := by
  rcases h with h | ⟨o, h⟩
  · exact .inl (k _ h)
  · exact .inr ⟨o, k _ h⟩
mutual
/-- carried to a heap that keeps what is not marked, with marks on nothing that it leans on -/
theorem R.ext (k : ∀ a o, ¬ M a → H a = some o → H' a = some o) (m : ∀ a, ¬ M a → H a ≠ none → ¬ M' a) : ∀ (d : D) {v : V}, R K mg M H v d → R K mg M' H' v d
  | .non, _, h => h
  | .bl _, _, h => h
  | .int _, _, h => h
  | .str _, _, h => h
  | .ref _, _, h => h
  | .ty _, _, h => h
  | .lst ds, v, h => by
    unfold R at h ⊢
    obtain ⟨a, xs, e, n, q, r⟩ := h
    exact ⟨a, xs, e, m a n (by rw [q]; simp), k a _ n q, Rs.ext k m ds r⟩
  | .tup ds, v, h => by
    unfold R at h ⊢
    obtain ⟨a, xs, e, q, r⟩ := h
    refine ⟨a, xs, e, ?_, Rs.ext k m ds r⟩
    rcases q with ⟨n, q⟩ | q
    · exact .inl ⟨m a n (by rw [q]; simp), k a _ n q⟩
    · exact .inr q
  | .obj c ns ds, v, h => by
    unfold R at h ⊢
    obtain ⟨a, C, dx, xs, e, n, g, q, l, r⟩ := h
    exact ⟨a, C, dx, xs, e, m a n (by rw [q]; simp), g, k a _ n q, l, Rs.ext k m ds r⟩
  | .dic ks ds, v, h => by
    unfold R at h ⊢
    obtain ⟨a, xs, e, n, q, l, r⟩ := h
    exact ⟨a, xs, e, m a n (by rw [q]; simp), k a _ n q, l, Rs.ext k m ds r⟩
  | .scr ns, v, h => by
    unfold R at h ⊢
    obtain ⟨a, e, q⟩ := h
    refine ⟨a, e, ?_⟩
    rcases q with ⟨n, q⟩ | q
    · refine .inl ⟨m a n ?_, rd_ext (fun o => k a o n) q⟩
      rcases q with q | ⟨o, q⟩ <;> rw [q] <;> simp
    · exact .inr q
theorem Rs.ext (k : ∀ a o, ¬ M a → H a = some o → H' a = some o) (m : ∀ a, ¬ M a → H a ≠ none → ¬ M' a) : ∀ (ds : List D) {xs : List V}, Rs K mg M H xs ds → Rs K mg M' H' xs ds
  | [], [], _ => by unfold Rs; trivial
  | [], _ :: _, h => by unfold Rs at h; exact h.elim
  | _ :: _, [], h => by unfold Rs at h; exact h.elim
  | d :: ds, x :: xs, h => by
    unfold Rs at h ⊢
    exact ⟨R.ext k m d h.1, Rs.ext k m ds h.2⟩
end
theorem Rs.nil : Rs K mg M H [] [] := by unfold Rs; trivial
theorem Rs.cons {x : V} {d : D} {xs : List V} {ds : List D} (h : R K mg M H x d) (t : Rs K mg M H xs ds) : Rs K mg M H (x :: xs) (d :: ds) := by unfold Rs; exact ⟨h, t⟩
theorem Rs.length : ∀ {xs : List V} {ds : List D}, Rs K mg M H xs ds → xs.length = ds.length
  | [], [], _ => rfl
  | _ :: _, _ :: _, h => by
    unfold Rs at h
    simp [Rs.length h.2]
  | [], _ :: _, h => by unfold Rs at h; exact h.elim
  | _ :: _, [], h => by unfold Rs at h; exact h.elim
theorem Rs.get : ∀ {xs : List V} {ds : List D} {i : Nat} {d : D}, Rs K mg M H xs ds → ds[i]? = some d → ∃ x, xs[i]? = some x ∧ R K mg M H x d
  | [], [], i, d, _, e => by simp at e
  | x :: xs, d' :: ds, 0, d, h, e => by
    unfold Rs at h
    simp at e; subst e
    exact ⟨x, rfl, h.1⟩
  | x :: xs, d' :: ds, i + 1, d, h, e => by
    unfold Rs at h
    obtain ⟨y, e1, r⟩ := Rs.get (i := i) (d := d) h.2 (by simpa using e)
    exact ⟨y, by simpa using e1, r⟩
  | [], _ :: _, _, _, h, _ => by unfold Rs at h; exact h.elim
  | _ :: _, [], _, _, h, _ => by unfold Rs at h; exact h.elim
theorem Rs.getV : ∀ {xs : List V} {ds : List D} {i : Nat} {x : V}, Rs K mg M H xs ds → xs[i]? = some x → ∃ d, ds[i]? = some d ∧ R K mg M H x d
  | [], [], i, x, _, e => by simp at e
  | y :: xs, d' :: ds, 0, x, h, e => by
    unfold Rs at h
    simp at e; subst e
    exact ⟨d', rfl, h.1⟩
  | y :: xs, d' :: ds, i + 1, x, h, e => by
    unfold Rs at h
    obtain ⟨y, e1, r⟩ := Rs.getV (i := i) (x := x) h.2 (by simpa using e)
    exact ⟨y, by simpa using e1, r⟩
  | [], _ :: _, _, _, h, _ => by unfold Rs at h; exact h.elim
  | _ :: _, [], _, _, h, _ => by unfold Rs at h; exact h.elim
theorem Rs.append : ∀ {xs ys : List V} {ds es : List D}, Rs K mg M H xs ds → Rs K mg M H ys es → Rs K mg M H (xs ++ ys) (ds ++ es)
  | [], _, [], _, _, t => t
  | _ :: _, _, _ :: _, _, h, t => by
    unfold Rs at h
    exact Rs.cons h.1 (Rs.append h.2 t)
  | [], _, _ :: _, _, h, _ => by unfold Rs at h; exact h.elim
  | _ :: _, _, [], _, h, _ => by unfold Rs at h; exact h.elim
theorem Rs.drop : ∀ {xs : List V} {ds : List D} (n : Nat), Rs K mg M H xs ds → Rs K mg M H (xs.drop n) (ds.drop n)
  | _, _, 0, h => by simpa using h
  | [], [], n + 1, h => by simpa using h
  | _ :: _, _ :: _, n + 1, h => by
    unfold Rs at h
    simpa using Rs.drop n h.2
  | [], _ :: _, _ + 1, h => by unfold Rs at h; exact h.elim
  | _ :: _, [], _ + 1, h => by unfold Rs at h; exact h.elim
theorem Rs.take : ∀ {xs : List V} {ds : List D} (n : Nat), Rs K mg M H xs ds → Rs K mg M H (xs.take n) (ds.take n)
  | _, _, 0, h => by simpa using Rs.nil
  | [], [], n + 1, h => by simpa using h
  | _ :: _, _ :: _, n + 1, h => by
    unfold Rs at h
    simpa using Rs.cons h.1 (Rs.take n h.2)
  | [], _ :: _, _ + 1, h => by unfold Rs at h; exact h.elim
  | _ :: _, [], _ + 1, h => by unfold Rs at h; exact h.elim
theorem Rs.set : ∀ {xs : List V} {ds : List D} {x : V} {d : D} (n : Nat), Rs K mg M H xs ds → R K mg M H x d → Rs K mg M H (xs.set n x) (ds.set n d)
  | [], [], _, _, _, h, _ => by simpa using h
  | _ :: _, _ :: _, _, _, 0, h, r => by
    unfold Rs at h
    exact Rs.cons r h.2
  | _ :: _, _ :: _, _, _, n + 1, h, r => by
    unfold Rs at h
    exact Rs.cons h.1 (Rs.set n h.2 r)
  | [], _ :: _, _, _, _, h, _ => by unfold Rs at h; exact h.elim
  | _ :: _, [], _, _, _, h, _ => by unfold Rs at h; exact h.elim
theorem rs1 {vs : List V} {d : D} (h : Rs K mg M H vs [d]) : ∃ v, vs = [v] ∧ R K mg M H v d := by
  cases vs with
  | nil => unfold Rs at h; exact h.elim
  | cons v vs =>
    unfold Rs at h
    obtain ⟨h1, h2⟩ := h
    cases vs with
    | nil => exact ⟨v, rfl, h1⟩
    | cons u us => unfold Rs at h2; exact h2.elim
theorem rs2 {vs : List V} {d d2 : D} (h : Rs K mg M H vs [d, d2]) : ∃ v u, vs = [v, u] ∧ R K mg M H v d ∧ R K mg M H u d2 := by
  cases vs with
  | nil => unfold Rs at h; exact h.elim
  | cons v vs =>
    unfold Rs at h
    obtain ⟨h1, h2⟩ := h
    obtain ⟨u, rfl, h3⟩ := rs1 h2
    exact ⟨v, u, rfl, h1, h3⟩
theorem Rs.ints : ∀ {xs : List V} {ns : List Int}, Rs K mg M H xs (ns.map D.int) ↔ xs = ns.map V.int
  | [], [] => by simp [Rs]
  | [], _ :: _ => by simp [Rs]
  | _ :: _, [] => by simp [Rs]
  | x :: xs, n :: ns => by
    have ih := Rs.ints (xs := xs) (ns := ns)
    simp [Rs, R, ih]
theorem Rs.strs : ∀ {xs : List V} {ns : List Str}, Rs K mg M H xs (ns.map D.str) ↔ xs = ns.map V.str
  | [], [] => by simp [Rs]
  | [], _ :: _ => by simp [Rs]
  | _ :: _, [] => by simp [Rs]
  | x :: xs, n :: ns => by
    have ih := Rs.strs (xs := xs) (ns := ns)
    simp [Rs, R, ih]
theorem Rs.bls : ∀ {xs : List V} {ns : List Bool}, Rs K mg M H xs (ns.map D.bl) ↔ xs = ns.map V.bl
  | [], [] => by simp [Rs]
  | [], _ :: _ => by simp [Rs]
  | _ :: _, [] => by simp [Rs]
  | x :: xs, n :: ns => by
    have ih := Rs.bls (xs := xs) (ns := ns)
    simp [Rs, R, ih]
theorem Cell.ext (k : ∀ a o, ¬ M a → H a = some o → H' a = some o) (m : ∀ a, ¬ M a → H a ≠ none → ¬ M' a) {a : Addr} (ka : ∀ o, H a = some o → H' a = some o) : ∀ {c : MC}, Cell K mg M H a c → Cell K mg M' H' a c
  | .lst _, ⟨xs, q, r⟩ => ⟨xs, ka _ q, Rs.ext k m _ r⟩
  | .obj _ _ _, ⟨C, dx, xs, g, q, l, r⟩ => ⟨C, dx, xs, g, ka _ q, l, Rs.ext k m _ r⟩
  | .dic _ _, ⟨xs, q, l, r⟩ => ⟨xs, ka _ q, l, Rs.ext k m _ r⟩
theorem Cell.ne {a : Addr} : ∀ {c : MC}, Cell K mg M H a c → H a ≠ none
  | .lst _, ⟨xs, q, r⟩ => by rw [q]; simp
  | .obj _ _ _, ⟨C, dx, xs, g, q, l, r⟩ => by rw [q]; simp
  | .dic _ _, ⟨xs, q, l, r⟩ => by rw [q]; simp
end

/-- where one stands: the names' data, the things that may change -/
structure Sit (K : PySem.W.Frag) (mg : Str → Option Value) (M : Addr → Prop) (σ : L2.St) (H : Hp) (e : DE) (cs : Cs) : Prop where
  mt : ∀ a, M a → H a ≠ none
  len : σ.length = e.length
  env : ∀ (i : Nat) (d : D), e[i]? = some (some d) → ∃ v : V, σ[i]? = some (some v) ∧ R K mg M H v d
  cel : ∀ p ∈ cs, M p.1 ∧ Cell K mg M H p.1 p.2
  nd : (cs.map (·.1)).Nodup
abbrev dom (cs : Cs) : List Addr := cs.map (·.1)

section
variable {K : PySem.W.Frag} {mg : Str → Option Value} {M : Addr → Prop} {H H' : Hp} {σ : L2.St} {e : DE} {cs cs' : Cs}
theorem Sit.keeps (S : Sit K mg M σ H e cs) (x : Ext (dom cs) H H') : ∀ a o, ¬ M a → H a = some o → H' a = some o := fun a o n h => x a o h fun z => by
  obtain ⟨p, hp, rfl⟩ := List.mem_map.mp z
  exact n (S.cel p hp).1
theorem Sit.r (S : Sit K mg M σ H e cs) (x : Ext (dom cs) H H') {v : V} {d : D} (r : R K mg M H v d) : R K mg M H' v d := R.ext (S.keeps x) (fun _ n _ => n) d r
theorem Sit.rs (S : Sit K mg M σ H e cs) (x : Ext (dom cs) H H') {v : List V} {d : List D} (r : Rs K mg M H v d) : Rs K mg M H' v d := Rs.ext (S.keeps x) (fun _ n _ => n) d r
/-- nothing that may change has changed -/
theorem Sit.ex (S : Sit K mg M σ H e cs) (x : Ext [] H H') : Sit K mg M σ H' e cs where
  mt := fun a m z => by
    cases q : H a with
    | none => exact S.mt a m q
    | some o => rw [x a o q (by simp)] at z; cases z
  len := S.len
  env := fun i d q => by
    obtain ⟨v, e1, r⟩ := S.env i d q
    exact ⟨v, e1, R.ext (fun a o _ h => x a o h (by simp)) (fun _ n _ => n) d r⟩
  cel := fun p hp => ⟨(S.cel p hp).1, (S.cel p hp).2.ext (fun a o _ h => x a o h (by simp)) (fun _ n _ => n) fun o h => x _ o h (by simp)⟩
  nd := S.nd
/-- the things that may change have become cs' -/
theorem Sit.step (S : Sit K mg M σ H e cs) (hd : dom cs' = dom cs) (x : Ext (dom cs) H H') (mt : ∀ a, M a → H' a ≠ none) (hc : ∀ p ∈ cs', M p.1 ∧ Cell K mg M H' p.1 p.2) : Sit K mg M σ H' e cs' where
  mt := mt
  len := S.len
  env := fun i d q => by
    obtain ⟨v, e1, r⟩ := S.env i d q
    exact ⟨v, e1, S.r x r⟩
  cel := hc
  nd := by rw [show cs'.map (·.1) = cs.map (·.1) from hd]; exact S.nd
theorem Sit.set (S : Sit K mg M σ H e cs) {v : V} {d : D} (i : Nat) (r : R K mg M H v d) : Sit K mg M (σ.set i (some v)) H (e.set i (some d)) cs where
  mt := S.mt
  len := by simp [S.len]
  env := fun j d' q => by
    by_cases hj : i = j
    · subst hj
      by_cases hi : i < e.length
      · rw [List.getElem?_set_self hi] at q
        cases q
        exact ⟨v, by rw [List.getElem?_set_self (by rw [S.len]; exact hi)], r⟩
      · rw [List.getElem?_eq_none (by simpa using hi)] at q; cases q
    · rw [List.getElem?_set_ne hj] at q
      obtain ⟨v', e1, r'⟩ := S.env j d' q
      exact ⟨v', by rw [List.getElem?_set_ne hj]; exact e1, r'⟩
  cel := S.cel
  nd := S.nd
/-- a slot forgotten -/
theorem Sit.wipe1 (S : Sit K mg M σ H e cs) (i : Nat) : Sit K mg M (σ.set i none) H (e.set i none) cs where
  mt := S.mt
  len := by simp [S.len]
  env := fun j d' q => by
    by_cases hj : i = j
    · subst hj
      by_cases hi : i < e.length
      · rw [List.getElem?_set_self hi] at q; cases q
      · rw [List.getElem?_eq_none (by simpa using hi)] at q; cases q
    · rw [List.getElem?_set_ne hj] at q
      obtain ⟨v', e1, r'⟩ := S.env j d' q
      exact ⟨v', by rw [List.getElem?_set_ne hj]; exact e1, r'⟩
  cel := S.cel
  nd := S.nd
def wipeD (e : DE) : List Nat → DE
  | [] => e
  | v :: vs => (wipeD e vs).set v none
theorem Sit.wipe (S : Sit K mg M σ H e cs) : ∀ vs : List Nat, Sit K mg M (L2.wipe σ vs) H (wipeD e vs) cs
  | [] => S
  | v :: vs => by
    unfold L2.wipe wipeD
    exact (Sit.wipe S vs).wipe1 v
/-- a new thing, marked -/
theorem Sit.mark (S : Sit K mg M σ H e cs) {p : Addr} {o : HO} (hp : H p = none) : Sit K mg (fun a => M a ∨ a = p) σ (upd H p o) e cs where
  mt := fun a m => by
    by_cases h : a = p
    · subst h; rw [upd_same]; simp
    · rw [upd_ne h]; exact S.mt a (m.resolve_right h)
  len := S.len
  env := fun i d q => by
    obtain ⟨v, e1, r⟩ := S.env i d q
    exact ⟨v, e1, R.ext (fun a u _ h => by rw [upd_ne (ne_of_none h hp)]; exact h) (fun a n h z => z.elim n fun z => h (z ▸ hp)) d r⟩
  cel := fun q hq => by
    obtain ⟨m, c⟩ := S.cel q hq
    refine ⟨.inl m, c.ext (fun a u _ h => by rw [upd_ne (ne_of_none h hp)]; exact h) (fun a n h z => z.elim n fun z => h (z ▸ hp)) fun u h => by rw [upd_ne (ne_of_none h hp)]; exact h⟩
  nd := S.nd
end
end Od

set_option Elab.async false
set_option linter.all false
set_option maxRecDepth 100000
set_option maxHeartbeats 4000000
namespace Od
open PySem L2

/-! ### the greatest readings -/
def wE (X : Cx) (ex : Expr) : TE := fun σ H Q => ∀ (pins : List (Addr × Obj)) (s : Shared), Inv X pins σ H s → wpAny (model X.prog X.w) X.A (eval ex X.env) (EP X pins σ Q) X.xe s
def wT (X : Cx) (ex : Expr) : TT := fun σ H Q => ∀ (pins : List (Addr × Obj)) (s : Shared), Inv X pins σ H s → wpAny (model X.prog X.w) X.A (isTrue ex X.env (eval ex X.env)) (TP X pins σ Q) X.xe s
def wW (X : Cx) (ex : Expr) : TT := fun σ H Q => ∀ (whole : Sem Value) (pins : List (Addr × Obj)) (s : Shared), Inv X pins σ H s → wpAny (model X.prog X.w) X.A (isTrue ex X.env whole) (TP X pins σ Q) X.xe s
def wA (X : Cx) (es : List Expr) : TA := fun σ H Q => ∀ (pos : Pos) (pins : List (Addr × Obj)) (s : Shared), Inv X pins σ H s → wpAny (model X.prog X.w) X.A (spliced (backTo pos (starEach es X.env))) (AP X pins σ Q) X.xe s
def wSs (X : Cx) (st : List Stmt) : TS := fun D σ H => ∀ (pins : List (Addr × Obj)) (s : Shared), Inv X pins σ H s → wpAny (model X.prog X.w) X.A (execs st X.env) (SP X pins D) X.xe s
section
variable {X : Cx} {ex : Expr} {es : List Expr} {st : List Stmt} {σ : L2.St} {H : Hp}
theorem pe_w : PE X ex (wE X ex) := ⟨fun pins s σ H Q I h => h pins s I⟩
theorem pt_w : PT X ex (wT X ex) := ⟨fun pins s σ H Q I h => h pins s I⟩
theorem pw_w : PW X ex (wW X ex) := ⟨fun wh pins s σ H Q I h => h wh pins s I⟩
theorem pa_w : PA X es (wA X es) := ⟨fun pos pins s σ H Q I h => h pos pins s I⟩
theorem pss_w : PSs X st (wSs X st) := ⟨fun pins s σ H Q I h => h pins s I⟩
theorem we_of {t : TE} (h : PE X ex t) {Q : VK} (q : t σ H Q) : wE X ex σ H Q := fun pins s I => h.run pins s σ H Q I q
theorem wt_of {t : TT} (h : PT X ex t) {Q : Bool → Hp → Prop} (q : t σ H Q) : wT X ex σ H Q := fun pins s I => h.run pins s σ H Q I q
theorem ww_of {t : TT} (h : PW X ex t) {Q : Bool → Hp → Prop} (q : t σ H Q) : wW X ex σ H Q := fun wh pins s I => h.run wh pins s σ H Q I q
theorem wa_of {t : TA} (h : PA X es t) {Q : List V → Hp → Prop} (q : t σ H Q) : wA X es σ H Q := fun pos pins s I => h.run pos pins s σ H Q I q
theorem wss_of {t : TS} (h : PSs X st t) {D : Ends} (q : t D σ H) : wSs X st D σ H := fun pins s I => h.run pins s σ H D I q
theorem wt_ww {Q : Bool → Hp → Prop} (q : wW X ex σ H Q) : wT X ex σ H Q := fun pins s I => q _ pins s I
end

/-! ### what an expression gives -/
structure EE (X : Cx) (M : Addr → Prop) (e : DE) (cs : Cs) (ex : Expr) (d : D) (cs' : Cs) : Prop where
  dm : dom cs' = dom cs
  k : ∀ (σ : L2.St) (H : Hp) (Q : VK), Sit X.K X.mg M σ H e cs → (∀ v H', Sit X.K X.mg M σ H' e cs' → Ext (dom cs) H H' → R X.K X.mg M H' v d → Q v H') → wE X ex σ H Q
structure ET (X : Cx) (M : Addr → Prop) (e : DE) (cs : Cs) (ex : Expr) (b : Bool) (cs' : Cs) : Prop where
  dm : dom cs' = dom cs
  k : ∀ (σ : L2.St) (H : Hp) (Q : Bool → Hp → Prop), Sit X.K X.mg M σ H e cs → (∀ H', Sit X.K X.mg M σ H' e cs' → Ext (dom cs) H H' → Q b H') → wT X ex σ H Q
structure EW (X : Cx) (M : Addr → Prop) (e : DE) (cs : Cs) (ex : Expr) (b : Bool) (cs' : Cs) : Prop where
  dm : dom cs' = dom cs
  k : ∀ (σ : L2.St) (H : Hp) (Q : Bool → Hp → Prop), Sit X.K X.mg M σ H e cs → (∀ H', Sit X.K X.mg M σ H' e cs' → Ext (dom cs) H H' → Q b H') → wW X ex σ H Q
structure EA (X : Cx) (M : Addr → Prop) (e : DE) (cs : Cs) (es : List Expr) (ds : List D) (cs' : Cs) : Prop where
  dm : dom cs' = dom cs
  k : ∀ (σ : L2.St) (H : Hp) (Q : List V → Hp → Prop), Sit X.K X.mg M σ H e cs → (∀ vs H', Sit X.K X.mg M σ H' e cs' → Ext (dom cs) H H' → Rs X.K X.mg M H' vs ds → Q vs H') → wA X es σ H Q

/-- what an operation on values gives, all that stands kept -/
abbrev Gives (X : Cx) (M : Addr → Prop) (H : Hp) (d : D) (Q : VK) : Prop := ∀ v H', Ext [] H H' → R X.K X.mg M H' v d → Q v H'
def BinD (X : Cx) (op : Operator) (x y z : D) : Prop := ∃ r, OpR X (binaryOp op) r ∧ ∀ (M : Addr → Prop) (H : Hp) (v u : V) (Q : VK), (∀ a, M a → H a ≠ none) → R X.K X.mg M H v x → R X.K X.mg M H u y → Gives X M H z Q → r v u H Q
def CmpD (X : Cx) (op : CmpOp) (x y : D) (b : Bool) : Prop := ∃ r, OpR X (compareOp op) r ∧ ∀ (M : Addr → Prop) (H : Hp) (v u : V) (Q : VK), (∀ a, M a → H a ≠ none) → R X.K X.mg M H v x → R X.K X.mg M H u y → Gives X M H (.bl b) Q → r v u H Q
def IxD (X : Cx) (x y z : D) : Prop := ∃ r, IxR X r ∧ ∀ (M : Addr → Prop) (H : Hp) (v u : V) (Q : VK), (∀ a, M a → H a ≠ none) → R X.K X.mg M H v x → R X.K X.mg M H u y → Gives X M H z Q → r v u H Q
def SlD (X : Cx) (x : D) (lo hi : Option Int) (z : D) : Prop := ∃ r, SlR X r ∧ ∀ (M : Addr → Prop) (H : Hp) (v : V) (Q : VK), (∀ a, M a → H a ≠ none) → R X.K X.mg M H v x → Gives X M H z Q → r v lo hi H Q
def CalD (X : Cx) (f : Value) (xs : List D) (z : D) : Prop := ∃ r, CallR X f r ∧ ∀ (M : Addr → Prop) (H : Hp) (vs : List V) (Q : VK), (∀ a, M a → H a ≠ none) → Rs X.K X.mg M H vs xs → Gives X M H z Q → r vs H Q
def UnD (X : Cx) (op : UnaryOp) (x z : D) : Prop := ∃ r, UnR X (unaryOp op) r ∧ ∀ (M : Addr → Prop) (H : Hp) (v : V) (Q : VK), (∀ a, M a → H a ≠ none) → R X.K X.mg M H v x → Gives X M H z Q → r v H Q
/-- a method of a text -/
def StrD (X : Cx) (id : String) (x : Str) (xs : List D) (z : D) : Prop := ∃ r, MtR X id r ∧ ∀ (M : Addr → Prop) (H : Hp) (vs : List V) (Q : VK), (∀ a, M a → H a ≠ none) → Rs X.K X.mg M H vs xs → Gives X M H z Q → r (.str x) vs H Q

section
variable {X : Cx} {M : Addr → Prop} {e : DE} {cs cs1 cs2 cs3 : Cs} {pos p pos' apos : Pos} {a b c ex : Expr} {es : List Expr} {d x y z : D} {ds : List D} {n : Str}

/-- pure continuation: nothing that may change has changed -/
theorem fin {σ : L2.St} {H H1 : Hp} {Q : VK} (S : Sit X.K X.mg M σ H e cs1) (xt : Ext (dom cs) H1 H) (k : ∀ v H', Sit X.K X.mg M σ H' e cs1 → Ext (dom cs) H1 H' → R X.K X.mg M H' v d → Q v H') : Gives X M H d Q := fun v H' x r => k v H' (S.ex x) (xt.trans (x.mono (by simp))) r

theorem e_name (i : Nat) (hd : e[i]? = some (some d)) (hN : X.N[i]? = some n := by rfl) (hv : Vis X.env.scope n := by first | exact Or.inl rfl | exact Or.inr (Or.inl rfl) | exact Or.inr (Or.inr rfl))
    (h1 : (n == ("__debug__" : Str)) = false := by decide) (h2 : (n == ("__classdict__" : Str)) = false := by decide) : EE X M e cs (.Name n pos) d cs where
  dm := rfl
  k := fun σ H Q S k => by
    obtain ⟨v, hs, r⟩ := S.env i d hd
    exact we_of (pe_var hN hv h1 h2) ⟨v, hs, k v H S (Ext.refl _ _) r⟩
theorem e_int {i : Int} {j} : EE X M e cs (.Constant (.int i) j pos) (.int i) cs := ⟨rfl, fun σ H Q S k => we_of pe_int (k _ H S (Ext.refl _ _) (by simp [R]))⟩
theorem e_bl {b : Bool} {j} : EE X M e cs (.Constant (.bool b) j pos) (.bl b) cs := ⟨rfl, fun σ H Q S k => we_of pe_bl (k _ H S (Ext.refl _ _) (by simp [R]))⟩
theorem e_non {j} : EE X M e cs (.Constant .none j pos) .non cs := ⟨rfl, fun σ H Q S k => we_of pe_non (k _ H S (Ext.refl _ _) (by simp [R]))⟩
theorem e_str {s : Str} {j} : EE X M e cs (.Constant (.str s) j pos) (.str s) cs := ⟨rfl, fun σ H Q S k => we_of pe_str (k _ H S (Ext.refl _ _) (by simp [R]))⟩
/-- a name of the module: a text, an int -/
theorem e_gstr {s : Str} {u : Value} (hm : X.mg n = some u) (hr : RelV (.str s) u) (hg : Gl X n := by rfl) (hd : (n == ("__debug__" : Str)) = false := by decide) : EE X M e cs (.Name n pos) (.str s) cs :=
  ⟨rfl, fun σ H Q S k => we_of (pe_glob hg hm hr hd) (k _ H S (Ext.refl _ _) (by simp [R]))⟩
theorem e_gint {s : Int} {u : Value} (hm : X.mg n = some u) (hr : RelV (.int s) u) (hg : Gl X n := by rfl) (hd : (n == ("__debug__" : Str)) = false := by decide) : EE X M e cs (.Name n pos) (.int s) cs :=
  ⟨rfl, fun σ H Q S k => we_of (pe_glob hg hm hr hd) (k _ H S (Ext.refl _ _) (by simp [R]))⟩
/-- a class of one's own as a value -/
theorem e_gref {C : Addr} (hm : X.mg n = some (.ref C)) (hg : Gl X n := by rfl) (hd : (n == ("__debug__" : Str)) = false := by decide) : EE X M e cs (.Name n pos) (.ref C) cs :=
  ⟨rfl, fun σ H Q S k => we_of (pe_glob (v := .ref C) hg hm rfl hd) (k _ H S (Ext.refl _ _) (by simp [R]))⟩
/-- a built-in type as a value -/
theorem e_gty {t : String} (hm : X.mg n = none) (hv : bootBuiltins n = some (.type t) := by decide +kernel) (hg : Gl X n := by rfl) (hn : n ≠ "__name__" := by decide) (hd : (n == ("__debug__" : Str)) = false := by decide) : EE X M e cs (.Name n pos) (.ty t) cs :=
  ⟨rfl, fun σ H Q S k => we_of (pe_bltn (v := .ty t) hg hm hv rfl hn hd) (k _ H S (Ext.refl _ _) (by simp [R]))⟩

theorem e_bin {op : Operator} (ha : EE X M e cs a x cs1) (hb : EE X M e cs1 b y cs2) (c : BinD X op x y z) : EE X M e cs (.BinOp a op b pos) z cs2 where
  dm := hb.dm.trans ha.dm
  k := fun σ H Q S k => by
    obtain ⟨r, ho, hk⟩ := c
    refine we_of (pe_op ho pe_w pe_w) (ha.k σ H _ S fun v H1 S1 x1 r1 => hb.k σ H1 _ S1 fun u H2 S2 x2 r2 => hk M H2 v u Q S2.mt (S1.r x2 r1) r2 (fin S2 (x1.trans ?_) k))
    rw [← ha.dm]; exact x2
theorem e_un {op : UnaryOp} (ha : EE X M e cs a x cs1) (c : UnD X op x z) : EE X M e cs (.UnaryOp op a pos) z cs1 where
  dm := ha.dm
  k := fun σ H Q S k => by
    obtain ⟨r, ho, hk⟩ := c
    exact we_of (pe_un ho pe_w) (ha.k σ H _ S fun v H1 S1 x1 r1 => hk M H1 v Q S1.mt r1 (fin S1 x1 k))
theorem e_cmp {op : CmpOp} {k0 : Bool} (ha : EE X M e cs a x cs1) (hb : EE X M e cs1 b y cs2) (c : CmpD X op x y k0) (hm : behindInMarks op b = false := by first | exact nomark _ | rfl) : EE X M e cs (.Compare a [op] [b] pos) (.bl k0) cs2 where
  dm := hb.dm.trans ha.dm
  k := fun σ H Q S k => by
    obtain ⟨r, ho, hk⟩ := c
    refine we_of (pe_cmpR ho pe_w pe_w hm) (ha.k σ H _ S fun v H1 S1 x1 r1 => hb.k σ H1 _ S1 fun u H2 S2 x2 r2 => hk M H2 v u Q S2.mt (S1.r x2 r1) r2 (fin S2 (x1.trans ?_) k))
    rw [← ha.dm]; exact x2
theorem t_cmp {op : CmpOp} {k0 : Bool} (ha : EE X M e cs a x cs1) (hb : EE X M e cs1 b y cs2) (c : CmpD X op x y k0) (hm : behindInMarks op b = false := by first | exact nomark _ | rfl) : ET X M e cs (.Compare a [op] [b] pos) k0 cs2 where
  dm := hb.dm.trans ha.dm
  k := fun σ H Q S k => by
    obtain ⟨r, ho, hk⟩ := c
    refine wt_of (pt_cmpR ho pe_w pe_w hm) (ha.k σ H _ S fun v H1 S1 x1 r1 => hb.k σ H1 _ S1 fun u H2 S2 x2 r2 => hk M H2 v u _ S2.mt (S1.r x2 r1) r2 fun w H3 x3 r3 => ⟨k0, by simpa [R] using r3, k H3 (S2.ex x3) (x1.trans ?_)⟩)
    rw [← ha.dm]; exact x2.trans (x3.mono (by simp))
/-- a < b < c, three plain values -/
theorem e_chain {op op' : CmpOp} {k0 k1 : Bool} (ha : EE X M e cs a x cs1) (hb : EE X M e cs1 b y cs2) (hc : EE X M e cs2 c z cs2) (q : CmpD X op x y k0) (q' : CmpD X op' y z k1) (hm : lastMarks [op, op'] [b, c] = false := by rfl) : EE X M e cs (.Compare a [op, op'] [b, c] pos) (.bl (k0 && k1)) cs2 where
  dm := hb.dm.trans ha.dm
  k := fun σ H Q S k => by
    obtain ⟨r, ho, hk⟩ := q
    obtain ⟨r', ho', hk'⟩ := q'
    refine we_of (pe_chain ho ho' pe_w pe_w pe_w hm) (ha.k σ H _ S fun v H1 S1 x1 r1 => hb.k σ H1 _ S1 fun u H2 S2 x2 r2 => hk M H2 v u _ S2.mt (S1.r x2 r1) r2 fun w H3 x3 r3 => ⟨k0, by simpa [R] using r3, ?_⟩)
    have x13 : Ext (dom cs) H H3 := (x1.trans (by rw [← ha.dm]; exact x2)).trans (x3.mono (by simp))
    cases k0 with
    | true =>
      rw [if_pos rfl]
      refine hc.k σ H3 _ (S2.ex x3) fun w' H4 S4 x4 r4 => hk' M H4 u w' _ S4.mt ?_ r4 (fin S4 (x13.trans ?_) ?_)
      · exact S4.r (Ext.refl _ _) ((S2.ex x3).r x4 ((S2.ex x3).r (Ext.refl _ _) (R.ext (fun a o _ h => x3 a o h (by simp)) (fun _ n _ => n) _ r2)))
      · rw [← hb.dm.trans ha.dm]; exact x4
      · simpa using k
    | false =>
      rw [if_neg (by simp)]
      exact k _ H3 (S2.ex x3) x13 (by simp [R])
theorem t_chain {op op' : CmpOp} {k0 k1 : Bool} (ha : EE X M e cs a x cs1) (hb : EE X M e cs1 b y cs2) (hc : EE X M e cs2 c z cs2) (q : CmpD X op x y k0) (q' : CmpD X op' y z k1) (hm : lastMarks [op, op'] [b, c] = false := by rfl) : ET X M e cs (.Compare a [op, op'] [b, c] pos) (k0 && k1) cs2 where
  dm := hb.dm.trans ha.dm
  k := fun σ H Q S k => by
    obtain ⟨r, ho, hk⟩ := q
    obtain ⟨r', ho', hk'⟩ := q'
    refine wt_of (pt_chain ho ho' pe_w pe_w pe_w hm) (ha.k σ H _ S fun v H1 S1 x1 r1 => hb.k σ H1 _ S1 fun u H2 S2 x2 r2 => hk M H2 v u _ S2.mt (S1.r x2 r1) r2 fun w H3 x3 r3 => ⟨k0, by simpa [R] using r3, ?_⟩)
    have x13 : Ext (dom cs) H H3 := (x1.trans (by rw [← ha.dm]; exact x2)).trans (x3.mono (by simp))
    cases k0 with
    | true =>
      rw [if_pos rfl]
      refine hc.k σ H3 _ (S2.ex x3) fun w' H4 S4 x4 r4 => hk' M H4 u w' _ S4.mt ?_ r4 fun w5 H5 x5 r5 => ⟨k1, by simpa [R] using r5, ?_⟩
      · exact S4.r (Ext.refl _ _) ((S2.ex x3).r x4 ((S2.ex x3).r (Ext.refl _ _) (R.ext (fun a o _ h => x3 a o h (by simp)) (fun _ n _ => n) _ r2)))
      · have := k H5 (S4.ex x5) (x13.trans ((by rw [← hb.dm.trans ha.dm]; exact x4 : Ext (dom cs) H3 H4).trans (x5.mono (by simp))))
        simpa using this
    | false =>
      rw [if_neg (by simp)]
      exact ⟨false, rfl, k H3 (S2.ex x3) x13⟩

def isNonD : D → Bool
  | .non => true
  | _ => false
theorem R.isNon {K : PySem.W.Frag} {mg : Str → Option Value} {H : Hp} : ∀ {x : D} {v : V}, R K mg M H v x → decide (v = V.non) = isNonD x
  | .non, v, h => by simp [R] at h; simp [h, isNonD]
  | .bl _, v, h => by simp [R] at h; simp [h, isNonD]
  | .int _, v, h => by simp [R] at h; simp [h, isNonD]
  | .str _, v, h => by simp [R] at h; simp [h, isNonD]
  | .ref _, v, h => by simp [R] at h; simp [h, isNonD]
  | .ty _, v, h => by simp [R] at h; simp [h, isNonD]
  | .lst _, v, h => by unfold R at h; obtain ⟨a, xs, rfl, _⟩ := h; simp [isNonD]
  | .tup _, v, h => by unfold R at h; obtain ⟨a, xs, rfl, _⟩ := h; simp [isNonD]
  | .obj _ _ _, v, h => by unfold R at h; obtain ⟨a, C, dx, xs, rfl, _⟩ := h; simp [isNonD]
  | .dic _ _, v, h => by unfold R at h; obtain ⟨a, xs, rfl, _⟩ := h; simp [isNonD]
  | .scr _, v, h => by unfold R at h; obtain ⟨a, rfl, _⟩ := h; simp [isNonD]
theorem e_isN {j} (ha : EE X M e cs a x cs1) : EE X M e cs (.Compare a [.Is] [.Constant .none j pos'] pos) (.bl (isNonD x)) cs1 where
  dm := ha.dm
  k := fun σ H Q S k => we_of (pe_cmp (pc_isN pe_w)) (ha.k σ H _ S fun v H1 S1 x1 r1 => k _ H1 S1 x1 (by simp [R, r1.isNon]))
theorem e_notN {j} (ha : EE X M e cs a x cs1) : EE X M e cs (.Compare a [.IsNot] [.Constant .none j pos'] pos) (.bl (!isNonD x)) cs1 where
  dm := ha.dm
  k := fun σ H Q S k => we_of (pe_cmp (pc_notN pe_w)) (ha.k σ H _ S fun v H1 S1 x1 r1 => k _ H1 S1 x1 (by simp [R, r1.isNon]))
theorem t_isN {j} (ha : EE X M e cs a x cs1) : ET X M e cs (.Compare a [.Is] [.Constant .none j pos'] pos) (isNonD x) cs1 where
  dm := ha.dm
  k := fun σ H Q S k => wt_of (pt_cmp (pc_isN pe_w)) (ha.k σ H _ S fun v H1 S1 x1 r1 => ⟨_, rfl, by rw [r1.isNon]; exact k H1 S1 x1⟩)
theorem t_notN {j} (ha : EE X M e cs a x cs1) : ET X M e cs (.Compare a [.IsNot] [.Constant .none j pos'] pos) (!isNonD x) cs1 where
  dm := ha.dm
  k := fun σ H Q S k => wt_of (pt_cmp (pc_notN pe_w)) (ha.k σ H _ S fun v H1 S1 x1 r1 => ⟨_, rfl, by rw [r1.isNon]; exact k H1 S1 x1⟩)

/-! ### and, or, not, if -/
theorem t_val {k0 : Bool} (ha : EE X M e cs a (.bl k0) cs1) (he : ∀ whole, isTrue a X.env whole = (do let v ← whole; standAt a.pos; holding [v] (truthy v)) := by intro _; rfl) : ET X M e cs a k0 cs1 where
  dm := ha.dm
  k := fun σ H Q S k => wt_of (pt_val pe_w he) (ha.k σ H _ S fun v H1 S1 x1 r1 => ⟨k0, by simpa [R] using r1, k H1 S1 x1⟩)
theorem t_not {k0 : Bool} (ha : ET X M e cs a k0 cs1) : ET X M e cs (.UnaryOp .Not a pos) (!k0) cs1 where
  dm := ha.dm
  k := fun σ H Q S k => wt_of (pt_not pt_w) (ha.k σ H _ S k)
theorem t_and1 {k0 : Bool} (ha : ET X M e cs a k0 cs1) : EW X M e cs (.BoolOp .And [a] pos) k0 cs1 where
  dm := ha.dm
  k := fun σ H Q S k => ww_of (pw_and1 pt_w) (ha.k σ H _ S k)
theorem t_or1 {k0 : Bool} (ha : ET X M e cs a k0 cs1) : EW X M e cs (.BoolOp .Or [a] pos) k0 cs1 where
  dm := ha.dm
  k := fun σ H Q S k => ww_of (pw_or1 pt_w) (ha.k σ H _ S k)
theorem t_andS {p0 q0 : Bool} (ha : ET X M e cs a p0 cs1) (hd : dom cs2 = dom cs1) (hb : p0 = true → EW X M e cs1 (.BoolOp .And (b :: es) pos) q0 cs2) (hc : p0 = false → cs2 = cs1) : EW X M e cs (.BoolOp .And (a :: b :: es) pos) (p0 && q0) cs2 where
  dm := hd.trans ha.dm
  k := fun σ H Q S k => ww_of (pw_and pt_w pw_w) (ha.k σ H _ S fun H1 S1 x1 => by
    cases p0 with
    | true =>
      rw [if_pos rfl]
      refine (hb rfl).k σ H1 _ S1 fun H2 S2 x2 => ?_
      rw [ha.dm] at x2
      simpa using k H2 S2 (x1.trans x2)
    | false =>
      rw [if_neg (by simp)]
      obtain rfl := hc rfl
      simpa using k H1 S1 x1)
theorem t_and {p0 q0 : Bool} (ha : ET X M e cs a p0 cs1) (hb : p0 = true → EW X M e cs1 (.BoolOp .And (b :: es) pos) q0 cs1) : EW X M e cs (.BoolOp .And (a :: b :: es) pos) (p0 && q0) cs1 := t_andS ha rfl hb fun _ => rfl
theorem t_orS {p0 q0 : Bool} (ha : ET X M e cs a p0 cs1) (hd : dom cs2 = dom cs1) (hb : p0 = false → EW X M e cs1 (.BoolOp .Or (b :: es) pos) q0 cs2) (hc : p0 = true → cs2 = cs1) : EW X M e cs (.BoolOp .Or (a :: b :: es) pos) (p0 || q0) cs2 where
  dm := hd.trans ha.dm
  k := fun σ H Q S k => ww_of (pw_or pt_w pw_w) (ha.k σ H _ S fun H1 S1 x1 => by
    cases p0 with
    | false =>
      rw [if_neg (by simp)]
      refine (hb rfl).k σ H1 _ S1 fun H2 S2 x2 => ?_
      rw [ha.dm] at x2
      simpa using k H2 S2 (x1.trans x2)
    | true =>
      rw [if_pos rfl]
      obtain rfl := hc rfl
      simpa using k H1 S1 x1)
theorem t_or {p0 q0 : Bool} (ha : ET X M e cs a p0 cs1) (hb : p0 = false → EW X M e cs1 (.BoolOp .Or (b :: es) pos) q0 cs1) : EW X M e cs (.BoolOp .Or (a :: b :: es) pos) (p0 || q0) cs1 := t_orS ha rfl hb fun _ => rfl
theorem t_ew {k0 : Bool} (h : EW X M e cs a k0 cs1) : ET X M e cs a k0 cs1 := ⟨h.dm, fun σ H Q S k => wt_ww (h.k σ H Q S k)⟩
/-- as values -/
theorem e_one {op : BoolOp} (ha : EE X M e cs a x cs1) : EE X M e cs (.BoolOp op [a] pos) x cs1 where
  dm := ha.dm
  k := fun σ H Q S k => we_of (pe_one pe_w) (ha.k σ H _ S k)
theorem e_andS {p0 q0 : Bool} (ha : EE X M e cs a (.bl p0) cs1) (hd : dom cs2 = dom cs1) (hb : p0 = true → EE X M e cs1 (.BoolOp .And (b :: es) pos) (.bl q0) cs2) (hc : p0 = false → cs2 = cs1) : EE X M e cs (.BoolOp .And (a :: b :: es) pos) (.bl (p0 && q0)) cs2 where
  dm := hd.trans ha.dm
  k := fun σ H Q S k => we_of (pe_and pe_w pe_w) (ha.k σ H _ S fun v H1 S1 x1 r1 => ⟨p0, by simpa [R] using r1, by
    cases p0 with
    | true =>
      rw [if_pos rfl]
      refine (hb rfl).k σ H1 _ S1 fun w H2 S2 x2 r2 => ?_
      rw [ha.dm] at x2
      exact k w H2 S2 (x1.trans x2) (by simpa using r2)
    | false =>
      rw [if_neg (by simp)]
      obtain rfl := hc rfl
      exact k _ H1 S1 x1 (by simp [R])⟩)
theorem e_and {p0 q0 : Bool} (ha : EE X M e cs a (.bl p0) cs1) (hb : p0 = true → EE X M e cs1 (.BoolOp .And (b :: es) pos) (.bl q0) cs1) : EE X M e cs (.BoolOp .And (a :: b :: es) pos) (.bl (p0 && q0)) cs1 := e_andS ha rfl hb fun _ => rfl
theorem e_orS {p0 q0 : Bool} (ha : EE X M e cs a (.bl p0) cs1) (hd : dom cs2 = dom cs1) (hb : p0 = false → EE X M e cs1 (.BoolOp .Or (b :: es) pos) (.bl q0) cs2) (hc : p0 = true → cs2 = cs1) : EE X M e cs (.BoolOp .Or (a :: b :: es) pos) (.bl (p0 || q0)) cs2 where
  dm := hd.trans ha.dm
  k := fun σ H Q S k => we_of (pe_or pe_w pe_w) (ha.k σ H _ S fun v H1 S1 x1 r1 => ⟨p0, by simpa [R] using r1, by
    cases p0 with
    | false =>
      rw [if_neg (by simp)]
      refine (hb rfl).k σ H1 _ S1 fun w H2 S2 x2 r2 => ?_
      rw [ha.dm] at x2
      exact k w H2 S2 (x1.trans x2) (by simpa using r2)
    | true =>
      rw [if_pos rfl]
      obtain rfl := hc rfl
      exact k _ H1 S1 x1 (by simp [R])⟩)
theorem e_or {p0 q0 : Bool} (ha : EE X M e cs a (.bl p0) cs1) (hb : p0 = false → EE X M e cs1 (.BoolOp .Or (b :: es) pos) (.bl q0) cs1) : EE X M e cs (.BoolOp .Or (a :: b :: es) pos) (.bl (p0 || q0)) cs1 := e_orS ha rfl hb fun _ => rfl
theorem e_not {p0 : Bool} (ha : EE X M e cs a (.bl p0) cs1) : EE X M e cs (.UnaryOp .Not a pos) (.bl (!p0)) cs1 where
  dm := ha.dm
  k := fun σ H Q S k => we_of (pe_not pe_w) (ha.k σ H _ S fun v H1 S1 x1 r1 => ⟨p0, by simpa [R] using r1, k _ H1 S1 x1 (by simp [R])⟩)
/-- a if c else b -/
theorem e_if {p0 : Bool} (hc : ET X M e cs c p0 cs1) (hd : dom cs2 = dom cs1) (ha : p0 = true → EE X M e cs1 a x cs2) (hb : p0 = false → EE X M e cs1 b x cs2) : EE X M e cs (.IfExp c a b pos) x cs2 where
  dm := hd.trans hc.dm
  k := fun σ H Q S k => we_of (pe_ifExp pt_w pe_w pe_w) (hc.k σ H _ S fun H1 S1 x1 => by
    cases p0 with
    | true =>
      rw [if_pos rfl]
      refine (ha rfl).k σ H1 _ S1 fun w H2 S2 x2 r2 => ?_
      rw [hc.dm] at x2
      exact k w H2 S2 (x1.trans x2) r2
    | false =>
      rw [if_neg (by simp)]
      refine (hb rfl).k σ H1 _ S1 fun w H2 S2 x2 r2 => ?_
      rw [hc.dm] at x2
      exact k w H2 S2 (x1.trans x2) r2)
/-- both sides told apart -/
theorem e_ite {p0 : Bool} (hc : ET X M e cs c p0 cs1) (ha : p0 = true → EE X M e cs1 a x cs1) (hb : p0 = false → EE X M e cs1 b y cs1) : EE X M e cs (.IfExp c a b pos) (if p0 then x else y) cs1 :=
  e_if hc rfl (fun h => by rw [if_pos h]; exact ha h) fun h => by rw [if_neg (by simp [h])]; exact hb h
/-- another name for what comes out -/
theorem EE.eq (h : EE X M e cs a x cs1) (q : x = y) : EE X M e cs a y cs1 := q ▸ h
theorem ET.eq {p0 q0 : Bool} (h : ET X M e cs a p0 cs1) (q : p0 = q0) : ET X M e cs a q0 cs1 := q ▸ h

/-! ### argument lists, displays -/
theorem a_nil : EA X M e cs [] [] cs := ⟨rfl, fun σ H Q S k => wa_of pa_nil (k _ H S (Ext.refl _ _) Rs.nil)⟩
theorem a_cons (ha : EE X M e cs a x cs1) (hr : EA X M e cs1 es ds cs2) (hs : starEach (a :: es) X.env = (false, eval a X.env) :: starEach es X.env := by rfl) : EA X M e cs (a :: es) (x :: ds) cs2 where
  dm := hr.dm.trans ha.dm
  k := fun σ H Q S k => wa_of (pa_cons pe_w pa_w hs) (ha.k σ H _ S fun v H1 S1 x1 r1 => hr.k σ H1 _ S1 fun vs H2 S2 x2 r2 => k _ H2 S2 (x1.trans (by rw [← ha.dm]; exact x2)) (.cons (S1.r x2 r1) r2))
theorem new_m {H : Hp} {p : Addr} (S : ∀ a, M a → H a ≠ none) (hp : H p = none) : ¬ M p := fun m => S p m hp
theorem r_newl {H : Hp} {p : Addr} {vs : List V} (S : ∀ a, M a → H a ≠ none) (hp : H p = none) (r : Rs X.K X.mg M H vs ds) : R X.K X.mg M (upd H p (.lst vs)) (.ref p) (.lst ds) := by
  unfold R
  exact ⟨p, vs, rfl, new_m S hp, upd_same, Rs.ext (fun a o _ h => by rw [upd_ne (ne_of_none h hp)]; exact h) (fun _ n _ => n) _ r⟩
theorem r_newt {H : Hp} {p : Addr} {vs : List V} (S : ∀ a, M a → H a ≠ none) (hp : H p = none) (r : Rs X.K X.mg M H vs ds) : R X.K X.mg M (upd H p (.tup vs)) (.ref p) (.tup ds) := by
  unfold R
  exact ⟨p, vs, rfl, .inl ⟨new_m S hp, upd_same⟩, Rs.ext (fun a o _ h => by rw [upd_ne (ne_of_none h hp)]; exact h) (fun _ n _ => n) _ r⟩
theorem e_tup {x1} (ha : EA X M e cs es ds cs1) (hl : ds.length ≤ 100000 := by first | decide | simp) : EE X M e cs (.Tuple es x1 pos) (.tup ds) cs1 where
  dm := ha.dm
  k := fun σ H Q S k => we_of (pe_tup pa_w) (ha.k σ H _ S fun vs H1 S1 x1 r1 => ⟨by rw [r1.length]; exact Nat.le_trans hl (by decide), fun p hp => fin S1 x1 k _ _ (Ext.new hp) (r_newt S1.mt hp r1)⟩)
theorem e_lst (ha : EA X M e cs es ds cs1) (hl : ds.length ≤ 100000 := by first | decide | simp) : EE X M e cs (.List es pos) (.lst ds) cs1 where
  dm := ha.dm
  k := fun σ H Q S k => we_of (pe_lst pa_w) (ha.k σ H _ S fun vs H1 S1 x1 r1 => ⟨by rw [r1.length]; exact Nat.le_trans hl (by decide), fun p hp => fin S1 x1 k _ _ (Ext.new hp) (r_newl S1.mt hp r1)⟩)

/-! ### subscripts, slices -/
theorem e_ix (ha : EE X M e cs a x cs1) (hb : EE X M e cs1 b y cs2) (q : IxD X x y z) (hs : PlainIx b := by intro _ _; rfl) : EE X M e cs (.Subscript a b pos) z cs2 where
  dm := hb.dm.trans ha.dm
  k := fun σ H Q S k => by
    obtain ⟨r, ho, hk⟩ := q
    refine we_of (pe_ix ho pe_w pe_w hs) (ha.k σ H _ S fun v H1 S1 x1 r1 => hb.k σ H1 _ S1 fun u H2 S2 x2 r2 => hk M H2 v u Q S2.mt (S1.r x2 r1) r2 (fin S2 (x1.trans ?_) k))
    rw [← ha.dm]; exact x2
/-- an end of a slice -/
structure EO (X : Cx) (M : Addr → Prop) (e : DE) (cs : Cs) (o : Option Expr) (i : Option Int) (cs' : Cs) : Prop where
  dm : dom cs' = dom cs
  k : ∃ t, PO X o t ∧ ∀ (σ : L2.St) (H : Hp) (Q : Option Int → Hp → Prop), Sit X.K X.mg M σ H e cs → (∀ H', Sit X.K X.mg M σ H' e cs' → Ext (dom cs) H H' → Q i H') → t σ H Q
theorem o_none : EO X M e cs none none cs := ⟨rfl, _, po_none, fun σ H Q S k => k H S (Ext.refl _ _)⟩
theorem o_some {i : Int} (ha : EE X M e cs a (.int i) cs1) : EO X M e cs (some a) (some i) cs1 := ⟨ha.dm, _, po_some pe_w, fun σ H Q S k => ha.k σ H _ S fun v H1 S1 x1 r1 => ⟨i, by simpa [R] using r1, k H1 S1 x1⟩⟩
theorem e_slice {lo hi : Option Expr} {i j : Option Int} {p2 : Pos} (ha : EE X M e cs a x cs1) (hl : EO X M e cs1 lo i cs2) (hh : EO X M e cs2 hi j cs3) (q : SlD X x i j z) : EE X M e cs (.Subscript a (.Slice lo hi none p2) pos) z cs3 where
  dm := hh.dm.trans (hl.dm.trans ha.dm)
  k := fun σ H Q S k => by
    obtain ⟨r, ho, hk⟩ := q
    obtain ⟨d1, tl, pl, kl⟩ := hl
    obtain ⟨d2, th, ph, kh⟩ := hh
    refine we_of (pe_slice ho pe_w pl ph) (ha.k σ H _ S fun v H1 S1 x1 r1 => kl σ H1 _ S1 fun H2 S2 x2 => kh σ H2 _ S2 fun H3 S3 x3 => hk M H3 v Q S3.mt (S2.r x3 (S1.r x2 r1)) (fin S3 ?_ k))
    exact (x1.trans (by rw [← ha.dm]; exact x2)).trans (by rw [← d1.trans ha.dm]; exact x3)
end
end Od

set_option Elab.async false
set_option linter.all false
set_option maxRecDepth 100000
set_option maxHeartbeats 4000000
namespace Od
open PySem L2

/-! ### promises -/
/-- called with args, the things cs as they are: gives res, the things become cs' -/
def fnSp (K : PySem.W.Frag) (mg : Str → Option Value) {ι : Type} (pre : ι → Prop) (args : ι → List D) (cs : ι → Cs) (res : ι → D) (cs' : ι → Cs) : Sp := fun vs H Q _ =>
  ∃ (M : Addr → Prop) (i : ι), pre i ∧ (∀ a, M a → H a ≠ none) ∧ Rs K mg M H vs (args i) ∧ (∀ p ∈ cs i, M p.1 ∧ Cell K mg M H p.1 p.2) ∧ (dom (cs i)).Nodup ∧
    ∀ v H', (∀ a, M a → H' a ≠ none) → Ext (dom (cs i)) H H' → (∀ p ∈ cs' i, M p.1 ∧ Cell K mg M H' p.1 p.2) → R K mg M H' v (res i) → Q v H'
/-- nothing that may change is asked -/
abbrev puSp (K : PySem.W.Frag) (mg : Str → Option Value) {ι : Type} (pre : ι → Prop) (args : ι → List D) (res : ι → D) : Sp := fnSp K mg pre args (fun _ => []) res (fun _ => [])
/-- __init__: the new instance behind it -/
def mkSp (K : PySem.W.Frag) (mg : Str → Option Value) (c : Str) {ι : Type} (pre : ι → Prop) (args : ι → List D) (ns : List Str) (ds : ι → List D) : Sp := fun vs H Q _ =>
  ∃ (M : Addr → Prop) (i : ι) (x C dx : Addr) (rest : List V), pre i ∧ vs = .ref x :: rest ∧ mg c = some (.ref C) ∧ H x = some (.ins C dx []) ∧ ¬ M x ∧ (∀ a, M a → H a ≠ none) ∧ Rs K mg (fun a => M a ∨ a = x) H rest (args i) ∧
    ∀ H', (∀ a, M a → H' a ≠ none) → Ext [x] H H' → R K mg M H' (.ref x) (.obj c ns (ds i)) → Q .non H'

/-- a def of the module -/
structure Dfn (P : Program) (w : World) (K : PySem.W.Frag) (mg : Str → Option Value) (base : Heap) (n : Str) (k : Nat) (sp : Sp) : Prop where
  ex : ∃ f, mg n = some (.ref f) ∧ PySem.W.keepIn K (.ref f) = true ∧ FnR P w K mg base CX0 k f sp
/-- a method of a class -/
structure Mth (P : Program) (w : World) (K : PySem.W.Frag) (mg : Str → Option Value) (base : Heap) (c m : Str) (k : Nat) (sp : Sp) : Prop where
  ex : ∃ C f, mg c = some (.ref C) ∧ Cls K C ∧ Meth K C m f ∧ FnR P w K mg base CX0 k f sp
/-- a property -/
structure Prp (P : Program) (w : World) (K : PySem.W.Frag) (mg : Str → Option Value) (base : Heap) (c m : Str) (k : Nat) (sp : Sp) : Prop where
  ex : ∃ C p g, mg c = some (.ref C) ∧ Cls K C ∧ PropOf K C m p g ∧ FnR P w K mg base CX0 k g sp
/-- a class that is made -/
structure Mkr (P : Program) (w : World) (K : PySem.W.Frag) (mg : Str → Option Value) (base : Heap) (c : Str) (k : Nat) (sp : Sp) : Prop where
  ex : ∃ C f, mg c = some (.ref C) ∧ Mk K C f ∧ FnR P w K mg base CX0 k f sp
/-- C.m is a static method: its record at p, its def at g -/
structure CStm (K : PySem.W.Frag) (C : Addr) (mc : Value) (m : Str) (g : Addr) : Prop where
  ex : ∃ p, PySem.W.findCls K (.ref C) mc m = some (.get (.builtin "staticmethod.__get__") (.ref p) .none (.ref C)) ∧ ∃ rest, PySem.W.recIn K p "staticmethod" = some (.ref g :: rest)
/-- a static method -/
structure Stc (P : Program) (w : World) (K : PySem.W.Frag) (mg : Str → Option Value) (base : Heap) (c m : Str) (k : Nat) (sp : Sp) : Prop where
  ex : ∃ C mc g, mg c = some (.ref C) ∧ ClX.CRead K C mc ∧ CStm K C mc m g ∧ PySem.W.keepIn K (.ref g) = true ∧ FnR P w K mg base CX0 k g sp

/-- one thing has become another -/
inductive Upd1 (a : Addr) (c c' : MC) : Cs → Cs → Prop
  | here {r : Cs} : Upd1 a c c' ((a, c) :: r) ((a, c') :: r)
  | there {p : Addr × MC} {r r' : Cs} (h : Upd1 a c c' r r') : Upd1 a c c' (p :: r) (p :: r')
theorem Upd1.dm {a : Addr} {c c' : MC} {r r' : Cs} (h : Upd1 a c c' r r') : dom r' = dom r := by
  induction h with
  | here => rfl
  | there _ ih => exact congrArg (List.cons _) ih
theorem Upd1.mem {a : Addr} {c c' : MC} {r r' : Cs} (h : Upd1 a c c' r r') : (a, c) ∈ r := by
  induction h with
  | here => exact List.mem_cons_self
  | there _ ih => exact List.mem_cons_of_mem _ ih
theorem Upd1.of {a : Addr} {c c' : MC} {r r' : Cs} (h : Upd1 a c c' r r') : (dom r).Nodup → ∀ p ∈ r', p = (a, c') ∨ (p ∈ r ∧ p.1 ≠ a) := by
  induction h with
  | here =>
    intro nd p hp
    rcases List.mem_cons.mp hp with e | e
    · exact .inl e
    · refine .inr ⟨List.mem_cons_of_mem _ e, fun z => ?_⟩
      refine (List.nodup_cons.mp nd).1 ?_
      show a ∈ _
      rw [← z]
      exact List.mem_map_of_mem (f := (·.1)) e
  | there h ih =>
    intro nd p hp
    have nd' := (List.nodup_cons.mp nd)
    rcases List.mem_cons.mp hp with e | e
    · subst e
      refine .inr ⟨List.mem_cons_self, fun z => nd'.1 ?_⟩
      show p.1 ∈ _
      rw [z]
      exact List.mem_map_of_mem (f := (·.1)) h.mem
    · rcases ih nd'.2 p e with q | ⟨q1, q2⟩
      · exact .inl q
      · exact .inr ⟨List.mem_cons_of_mem _ q1, q2⟩

section
variable {X : Cx} {CX : CXT} {k : Nat} {f : Addr} {sp : Sp} {E : XK} {x m : Str} {p pos apos : Pos} {ex o : Expr} {es : List Expr} {t : TA} {ta : TE}
theorem pe_callR (F : FnR X.prog X.w X.K X.mg X.base CX k f sp) (hr : Room k X.A) (hg : Gl X x) (hm : X.mg x = some (.ref f)) (hk : PySem.W.keepIn X.K (.ref f) = true) (hx : Passes CX X E) (ha : PA X (ex :: es) t)
    (hdb : (x == ("__debug__" : Str)) = false := by decide) (he : starEach (ex :: es) X.env = (false, eval ex X.env) :: starEach es X.env := by rfl) (hpl : (backTo pos (starEach es X.env)).any (·.1) = false := by rfl) :
    PE X (.Call (.Name x p) (ex :: es) [] pos) (fun σ H Q => t σ H fun vs H1 => sp vs H1 Q E) := by
  refine ⟨fun pins s σ H Q I h => ?_⟩
  refine wpAny_Call_Name_kw (ld_glob I hg hm ?_ hdb)
  refine PySem.W.callWith_K (h₀ := X.base) I.ok.mod.kin hk (thn (ha.run pos pins s σ H _ I h) fun us s1 ⟨vs, H1, I1, r, q⟩ => ⟨I1.kIn, ?_⟩) he hpl
  exact wpAny_call (run_fnR F hr hx I1 r q)
theorem pe_callR0 (F : FnR X.prog X.w X.K X.mg X.base CX k f sp) (hr : Room k X.A) (hg : Gl X x) (hm : X.mg x = some (.ref f)) (hk : PySem.W.keepIn X.K (.ref f) = true) (hx : Passes CX X E)
    (hdb : (x == ("__debug__" : Str)) = false := by decide) : PE X (.Call (.Name x p) [] [] pos) (fun σ H Q => sp [] H Q E) := by
  refine ⟨fun pins s σ H Q I h => ?_⟩
  refine wpAny_Call_Name_kw (ld_glob I hg hm ?_ hdb)
  exact PySem.W.callWith_K0 I.kIn hk (wpAny_call (run_fnR (us := []) F hr hx I .nil h))
theorem pe_methR0 {C : Addr} {pl : Sem Bool} (he : PE X o ta) (c : Cls X.K C) (hm : Meth X.K C m f) (F : FnR X.prog X.w X.K X.mg X.base CX k f sp) (hr : Room k X.A) (hx : Passes CX X E)
    (ht : eval (.Call (.Attribute o m apos) [] [] pos) X.env = (do
      let ov ← eval o X.env
      standAt apos.atName
      let (f, first) ← holding [ov] (getMethod ov m pl)
      callWith pos f first (backTo pos (starEach [] X.env)) (backToKw pos (keywordEach [] X.env))) := by rfl) :
    PE X (.Call (.Attribute o m apos) [] [] pos) (fun σ H Q => ta σ H fun x H1 => ∃ a dx fs, x = .ref a ∧ H1 a = some (.ins C dx fs) ∧ fs.lookup m = none ∧ sp [x] H1 Q E) := by
  refine ⟨fun pins s σ H Q I h => ?_⟩
  refine PySem.W.methodCall_KW (pl := pl) (thn (he.run pins s σ H _ I h) fun u s1 ⟨x, H1, I1, rx, a, dx, fs, ex, ea, l, q⟩ => ?_) ht
  subst ex
  obtain rfl : u = Value.ref a := rx
  refine getmeth_ok I1 ea c hm l ?_
  exact PySem.W.callWith_K0 (first := [.ref a]) I1.kIn hm.kp (wpAny_call (run_fnR (us := [.ref a]) (vs := [.ref a]) F hr hx I1 (.cons rfl .nil) q))
/-- e.f, a property -/
theorem pe_propR {C pp g : Addr} {fn : Str} (he : PE X o ta) (c : Cls X.K C) (hp : PropOf X.K C fn pp g) (F : FnR X.prog X.w X.K X.mg X.base CX k g sp) (hr : Room (k + 1) X.A) (hx : Passes CX X.nox E)
    (hab : attributeBase o fn X.env (eval o X.env) = eval o X.env) : PE X (.Attribute o fn pos) (fun σ H Q => ta σ H fun x H1 => ∃ a dx fs, x = .ref a ∧ H1 a = some (.ins C dx fs) ∧ sp [.ref a] H1 Q E) := by
  refine ⟨fun pins s σ H Q I0 h => ?_⟩
  refine attr_of hab (thn (he.run pins s σ H _ I0 h) fun u s1 ⟨x, H1, I, rx, a, dx, fs, ex, ea, q⟩ => ?_)
  subst ex
  obtain rfl : u = Value.ref a := rx
  obtain ⟨mA, O, _, _, _, _⟩ := ins_get I.hok ea
  obtain ⟨od, J, _⟩ := O.look
  obtain ⟨rest, hrec⟩ := hp.rec_
  have I1 := I.tok (s1.toks + 1)
  have hc : (PySem.W.clsIn X.K C).isSome = true := by
    obtain ⟨cd, hc, _⟩ := PySem.W.any_some c.hd
    rw [hc]; rfl
  refine PySem.W.get_bind I.kIn J (PySem.W.plainGet_of (c.get fn)).1 (PySem.W.findObj_data hc hp.at_ hp.get hp.tak) (PySem.W.plainGet_of (c.get fn)).2 (wpAny_call (PySem.W.prop_get (s := { s1 with toks := s1.toks + 1 }) I.kIn hrec ?_))
  refine codeAny_mono (F X.A.in1 X.stack { s1 with toks := s1.toks + 1 } H1 [.ref a] [.ref a] Q E hr.in1 I1.env0.in1 (.cons rfl .nil) q) fun r s' hq => ?_
  cases r with
  | error er => exact False.elim (hx pins σ H1 { s1 with toks := s1.toks + 1 } er s' (I1.wish _) hq)
  | ok fl =>
    cases fl with
    | ret u =>
      obtain ⟨v, H', I3, rv, q3⟩ := I1.after hq
      show wpAny _ _ (handedOut u) _ _ _
      rw [PySem.W.handedOut_of (handed_of rv)]
      exact wpAny_pure ⟨v, H', I3, rv, q3⟩
    | next => exact False.elim hq
    | brk => exact False.elim hq
    | cont => exact False.elim hq
theorem getcst_ok {C g : Addr} {mc : Value} {b : Bool} {pins : List (Addr × Obj)} {σ : L2.St} {H : Hp} {s : Shared} {A : Around} {E : Value → Shared → Prop} {Q : Value → Shared → Prop} (I : Inv X pins σ H s) (r : ClX.CRead X.K C mc) (k : CStm X.K C mc m g) (h : ∀ s', Inv X pins σ H s' → Q (.ref g) s') : wpAny (model X.prog X.w) A (getAttr (.ref C) m b) Q E s := by
  obtain ⟨p, h1, rest, h2⟩ := k.ex
  exact PySem.W.cls_bind I.kIn r.rd h1 (wpAny_call (PySem.W.sm_get (s := { s with toks := s.toks + 1 }) I.kIn h2 (PySem.W.handed_on rfl (h _ (I.tok _)))))
/-- C.m(..), m a static method -/
theorem pe_cstat {C g : Addr} {mc : Value} {pl : Sem Bool} (he : PE X o ta) (r : ClX.CRead X.K C mc) (c : CStm X.K C mc m g) (hk : PySem.W.keepIn X.K (.ref g) = true) (F : FnR X.prog X.w X.K X.mg X.base CX k g sp) (hr : Room k X.A) (hx : Passes CX X E) (ha : PA X (ex :: es) t)
    (hst : starEach (ex :: es) X.env = (false, eval ex X.env) :: starEach es X.env := by rfl) (hpl : (backTo pos (starEach es X.env)).any (·.1) = false := by rfl)
    (ht : eval (.Call (.Attribute o m apos) (ex :: es) [] pos) X.env = (do
      let ov ← eval o X.env
      standAt apos.atName
      let (f, first) ← holding [ov] (getMethod ov m pl)
      callWith pos f first (backTo pos (starEach (ex :: es) X.env)) (backToKw pos (keywordEach [] X.env))) := by rfl) :
    PE X (.Call (.Attribute o m apos) (ex :: es) [] pos) (fun σ H Q => ta σ H fun x H1 => x = .ref C ∧ t σ H1 fun vs H2 => sp vs H2 Q E) := by
  refine ⟨fun pins s σ H Q I h => ?_⟩
  refine PySem.W.methodCall_KW (pl := pl) (thn (he.run pins s σ H _ I h) fun u s1 ⟨x, H1, I1, rx, ex, q⟩ => ?_) ht
  subst ex
  obtain rfl : u = Value.ref C := rx
  refine PySem.W.method_cls I1.kIn r.ga (getcst_ok I1 r c fun s2 I2 => ?_)
  refine PySem.W.callWith_K (first := []) (h₀ := X.base) I2.ok.mod.kin hk (thn (ha.run pos pins s2 σ H1 _ I2 q) fun us s3 ⟨vs, H2, I3, rv, q2⟩ => ⟨I3.kIn, ?_⟩) hst hpl
  exact wpAny_call (run_fnR F hr hx I3 rv q2)
theorem pe_cstat0 {C g : Addr} {mc : Value} {pl : Sem Bool} (he : PE X o ta) (r : ClX.CRead X.K C mc) (c : CStm X.K C mc m g) (hk : PySem.W.keepIn X.K (.ref g) = true) (F : FnR X.prog X.w X.K X.mg X.base CX k g sp) (hr : Room k X.A) (hx : Passes CX X E)
    (ht : eval (.Call (.Attribute o m apos) [] [] pos) X.env = (do
      let ov ← eval o X.env
      standAt apos.atName
      let (f, first) ← holding [ov] (getMethod ov m pl)
      callWith pos f first (backTo pos (starEach [] X.env)) (backToKw pos (keywordEach [] X.env))) := by rfl) :
    PE X (.Call (.Attribute o m apos) [] [] pos) (fun σ H Q => ta σ H fun x H1 => x = .ref C ∧ sp [] H1 Q E) := by
  refine ⟨fun pins s σ H Q I h => ?_⟩
  refine PySem.W.methodCall_KW (pl := pl) (thn (he.run pins s σ H _ I h) fun u s1 ⟨x, H1, I1, rx, ex, q⟩ => ?_) ht
  subst ex
  obtain rfl : u = Value.ref C := rx
  refine PySem.W.method_cls I1.kIn r.ga (getcst_ok I1 r c fun s2 I2 => ?_)
  exact PySem.W.callWith_K0 (first := []) I2.kIn hk (wpAny_call (run_fnR (us := []) F hr hx I2 .nil q))
/-- C() by a positional promise -/
theorem pe_makeR0 {C : Addr} (M : Mk X.K C f) (F : FnR X.prog X.w X.K X.mg X.base CX k f sp) (hr : Room (k + 1) X.A) (hg : Gl X x) (hm : X.mg x = some (.ref C)) (hx : Passes CX X E) (hdb : (x == ("__debug__" : Str)) = false := by decide) :
    PE X (.Call (.Name x p) [] [] pos) (StX.tMakeR C sp E tNil) := by
  refine ⟨fun pins s σ H Q I h => ?_⟩
  refine wpAny_Call_Name_kw (ld_glob I hg hm ?_ hdb)
  exact PySem.W.callWith_K0 I.kIn M.kp (StX.run_makeR (us := []) M F hr hx I .nil h)
end

section
variable {X : Cx} {M : Addr → Prop} {e : DE} {cs cs1 cs2 cs3 : Cs} {pos p pos' apos : Pos} {a b c ex o : Expr} {es : List Expr} {d x y z : D} {ds : List D} {n m : Str} {k j : Nat}
variable {ι : Type} {pre : ι → Prop} {args : ι → List D} {cz cz' : ι → Cs} {res : ι → D}

/-- what a promise gives at a caller's -/
theorem sp_use {σ : L2.St} {H : Hp} {Q : VK} {E : XK} {vs : List V} (i : ι) (hp : pre i) (S : Sit X.K X.mg M σ H e cs1) (r : Rs X.K X.mg M H vs (args i)) (hz : ∀ q ∈ cz i, q ∈ cs1) (nd : (dom (cz i)).Nodup)
    (hd : dom cs2 = dom cs1) (hz' : ∀ q ∈ cs2, q ∈ cz' i ∨ (q ∈ cs1 ∧ q.1 ∉ dom (cz i)))
    (k : ∀ v H', Sit X.K X.mg M σ H' e cs2 → Ext (dom cs1) H H' → R X.K X.mg M H' v (res i) → Q v H') : fnSp X.K X.mg pre args cz res cz' vs H Q E := by
  refine ⟨M, i, hp, S.mt, r, fun q hq => S.cel q (hz q hq), nd, fun v H' mt xt cl rv => ?_⟩
  have hsub : ∀ a ∈ dom (cz i), a ∈ dom cs1 := fun a ha => by
    obtain ⟨q, hq, rfl⟩ := List.mem_map.mp ha
    exact List.mem_map_of_mem (hz q hq)
  have xt' : Ext (dom cs1) H H' := xt.mono hsub
  refine k v H' (S.step hd xt' mt fun q hq => ?_) xt' rv
  rcases hz' q hq with h | ⟨h, hn⟩
  · exact cl q h
  · exact ⟨(S.cel q h).1, (S.cel q h).2.ext (S.keeps xt') (fun _ n _ => n) fun u hu => xt _ u hu hn⟩
/-- f(..), nothing changes -/
theorem e_call (F : Dfn X.prog X.w X.K X.mg X.base n k (puSp X.K X.mg pre args res)) (hr : Room k X.A) (ha : EA X M e cs (a :: es) ds cs1) (i : ι) (hp : pre i) (hds : ds = args i) (hg : Gl X n := by rfl)
    (hdb : (n == ("__debug__" : Str)) = false := by decide) (he : starEach (a :: es) X.env = (false, eval a X.env) :: starEach es X.env := by rfl) (hpl : (backTo pos (starEach es X.env)).any (·.1) = false := by rfl) : EE X M e cs (.Call (.Name n p) (a :: es) [] pos) (res i) cs1 where
  dm := ha.dm
  k := fun σ H Q S k => by
    obtain ⟨f, hm, hk, F⟩ := F.ex
    refine we_of (pe_callR (E := E0) F hr hg hm hk pass0 pa_w hdb he hpl) (ha.k σ H _ S fun vs H1 S1 x1 r1 => ?_)
    subst hds
    exact sp_use i hp S1 r1 (by simp) (by simp) rfl (fun q hq => .inr ⟨hq, by simp⟩) fun v H' S2 x2 r2 => k v H' S2 (x1.trans (by rw [← ha.dm]; exact x2)) r2
theorem e_call0 (F : Dfn X.prog X.w X.K X.mg X.base n k (puSp X.K X.mg pre args res)) (hr : Room k X.A) (i : ι) (hp : pre i) (hds : [] = args i) (hg : Gl X n := by rfl) (hdb : (n == ("__debug__" : Str)) = false := by decide) : EE X M e cs (.Call (.Name n p) [] [] pos) (res i) cs where
  dm := rfl
  k := fun σ H Q S k => by
    obtain ⟨f, hm, hk, F⟩ := F.ex
    refine we_of (pe_callR0 (E := E0) F hr hg hm hk pass0 hdb) ?_
    exact sp_use i hp S (by rw [← hds]; exact Rs.nil) (by simp) (by simp) rfl (fun q hq => .inr ⟨hq, by simp⟩) fun v H' S2 x2 r2 => k v H' S2 x2 r2
/-- f(..), one thing changes -/
theorem e_call1 {ad : Addr} {mc mc' : MC} (F : Dfn X.prog X.w X.K X.mg X.base n k (fnSp X.K X.mg pre args cz res cz')) (hr : Room k X.A) (ha : EA X M e cs (a :: es) ds cs1) (i : ι) (hp : pre i) (hds : ds = args i) (h1 : cz i = [(ad, mc)]) (h2 : cz' i = [(ad, mc')]) (hu : Upd1 ad mc mc' cs1 cs2) (hg : Gl X n := by rfl)
    (hdb : (n == ("__debug__" : Str)) = false := by decide) (he : starEach (a :: es) X.env = (false, eval a X.env) :: starEach es X.env := by rfl) (hpl : (backTo pos (starEach es X.env)).any (·.1) = false := by rfl) : EE X M e cs (.Call (.Name n p) (a :: es) [] pos) (res i) cs2 where
  dm := hu.dm.trans ha.dm
  k := fun σ H Q S k => by
    obtain ⟨f, hm, hk, F⟩ := F.ex
    refine we_of (pe_callR (E := E0) F hr hg hm hk pass0 pa_w hdb he hpl) (ha.k σ H _ S fun vs H1 S1 x1 r1 => ?_)
    subst hds
    refine sp_use i hp S1 r1 (by rw [h1]; simpa using hu.mem) (by rw [h1]; simp) hu.dm (fun q hq => ?_) fun v H' S2 x2 r2 => k v H' S2 (x1.trans (by rw [← ha.dm]; exact x2)) r2
    rw [h1, h2]
    rcases hu.of S1.nd q hq with z | ⟨z1, z2⟩
    · exact .inl (by simp [z])
    · exact .inr ⟨z1, by simpa using z2⟩

/-! ### objects -/
theorem r_obj {H : Hp} {v : V} {cn : Str} {ns : List Str} (r : R X.K X.mg M H v (.obj cn ns ds)) : ∃ (a C dx : Addr) (xs : List V), v = .ref a ∧ ¬ M a ∧ X.mg cn = some (.ref C) ∧ H a = some (.ins C dx (ns.zip xs)) ∧ ns.length = xs.length ∧ Rs X.K X.mg M H xs ds := by
  unfold R at r; exact r
theorem zip_lookup {m : Str} : ∀ {ns : List Str} {xs : List V} {i : Nat} {x : V}, ns.idxOf? m = some i → xs[i]? = some x → (ns.zip xs).lookup m = some x
  | [], _, _, _, h, _ => by simp at h
  | n :: ns, [], i, _, _, e => by simp at e
  | n :: ns, y :: xs, i, x, h, e => by
    rw [List.idxOf?_cons] at h
    by_cases q : n = m
    · subst q
      simp at h; subst h
      simp at e; subst e
      simp [List.lookup]
    · simp [q] at h
      obtain ⟨j, hj, rfl⟩ := h
      have : (m == n) = false := by simpa using fun z => q z.symm
      simp only [List.zip_cons_cons, List.lookup_cons, this]
      exact zip_lookup hj (by simpa using e)
theorem zip_lookup_none {m : Str} : ∀ {ns : List Str} {xs : List V}, m ∉ ns → (ns.zip xs).lookup m = none
  | [], _, _ => by simp
  | n :: ns, [], _ => by simp
  | n :: ns, y :: xs, h => by
    have h1 : (m == n) = false := by simpa using fun z => h (by simp [z])
    simp only [List.zip_cons_cons, List.lookup_cons, h1]
    exact zip_lookup_none fun z => h (List.mem_cons_of_mem _ z)
/-- e.f, a field of an instance -/
theorem e_fld {cn : Str} {ns : List Str} {C : Addr} (ha : EE X M e cs a (.obj cn ns ds) cs1) (hm : X.mg cn = some (.ref C)) (hc : Cls X.K C) (hn : NoAttr X.K C m) (i : Nat) (hi : ns.idxOf? m = some i) (hd : ds[i]? = some d)
    (hb : attributeBase a m X.env (eval a X.env) = eval a X.env := by rfl) : EE X M e cs (.Attribute a m pos) d cs1 where
  dm := ha.dm
  k := fun σ H Q S k => we_of (pe_fld pe_w hb) (ha.k σ H _ S fun v H1 S1 x1 r1 => by
    obtain ⟨ad, C', dx, xs, rfl, _, hm', ho, hl, rs⟩ := r_obj r1
    rw [hm] at hm'; cases hm'
    obtain ⟨u, hu, ru⟩ := rs.get hd
    exact ⟨ad, C, dx, _, u, rfl, ho, hc, hn, zip_lookup hi hu, k u H1 S1 x1 ru⟩)
/-- e.f, a property -/
theorem e_prop {cn : Str} {ns : List Str} (F : Prp X.prog X.w X.K X.mg X.base cn m k (puSp X.K X.mg pre args res)) (hr : Room (k + 1) X.A) (ha : EE X M e cs a (.obj cn ns ds) cs1) (i : ι) (hp : pre i) (hds : [.obj cn ns ds] = args i)
    (hb : attributeBase a m X.env (eval a X.env) = eval a X.env := by rfl) : EE X M e cs (.Attribute a m pos) (res i) cs1 where
  dm := ha.dm
  k := fun σ H Q S k => by
    obtain ⟨C, pp, g, hm, hc, hpp, F⟩ := F.ex
    refine we_of (pe_propR (E := E0) pe_w hc hpp F hr pass0 hb) (ha.k σ H _ S fun v H1 S1 x1 r1 => ?_)
    obtain ⟨ad, C', dx, xs, rfl, _, hm', ho, hl, rs⟩ := r_obj r1
    rw [hm] at hm'; cases hm'
    refine ⟨ad, dx, _, rfl, ho, sp_use i hp S1 (by rw [← hds]; exact .cons r1 .nil) (by simp) (by simp) rfl (fun q hq => .inr ⟨hq, by simp⟩) fun v H' S2 x2 r2 => k v H' S2 (x1.trans (by rw [← ha.dm]; exact x2)) r2⟩
/-- o.m(..), o an instance that does not change -/
theorem e_meth {cn : Str} {ns : List Str} {pl : Sem Bool} (F : Mth X.prog X.w X.K X.mg X.base cn m k (puSp X.K X.mg pre args res)) (hr : Room k X.A) (ho : EE X M e cs o (.obj cn ns ds) cs1) (ha : EA X M e cs1 (a :: es) [x] cs2) (hnm : m ∉ ns) (i : ι) (hp : pre i) (hds : [.obj cn ns ds, x] = args i)
    (hst : starEach (a :: es) X.env = (false, eval a X.env) :: starEach es X.env := by rfl) (hpl : (backTo pos (starEach es X.env)).any (·.1) = false := by rfl)
    (ht : eval (.Call (.Attribute o m apos) (a :: es) [] pos) X.env = (do
      let ov ← eval o X.env
      standAt apos.atName
      let (f, first) ← holding [ov] (getMethod ov m pl)
      callWith pos f first (backTo pos (starEach (a :: es) X.env)) (backToKw pos (keywordEach [] X.env))) := by rfl) : EE X M e cs (.Call (.Attribute o m apos) (a :: es) [] pos) (res i) cs2 where
  dm := ha.dm.trans ho.dm
  k := fun σ H Q S k => by
    obtain ⟨C, f, hm, hc, hmt, F⟩ := F.ex
    refine we_of (pe_methR (E := E0) pe_w hc hmt F hr pass0 pa_w hst hpl ht) (ho.k σ H _ S fun v H1 S1 x1 r1 => ?_)
    obtain ⟨ad, C', dx, xs, rfl, hM, hm', hob, hl, rs⟩ := r_obj r1
    rw [hm] at hm'; cases hm'
    refine ⟨ad, dx, _, rfl, hob, zip_lookup_none hnm, ha.k σ H1 _ S1 fun vs H2 S2 x2 r2 => ?_⟩
    refine sp_use i hp S2 (by rw [← hds]; exact .cons (S1.r x2 r1) r2) (by simp) (by simp) rfl (fun q hq => .inr ⟨hq, by simp⟩) fun v H' S3 x3 r3 => k v H' S3 ((x1.trans (by rw [← ho.dm]; exact x2)).trans (by rw [← ho.dm, ← ha.dm]; exact x3)) r3
theorem e_meth0 {cn : Str} {ns : List Str} {pl : Sem Bool} (F : Mth X.prog X.w X.K X.mg X.base cn m k (puSp X.K X.mg pre args res)) (hr : Room k X.A) (ho : EE X M e cs o (.obj cn ns ds) cs1) (hnm : m ∉ ns) (i : ι) (hp : pre i) (hds : [.obj cn ns ds] = args i)
    (ht : eval (.Call (.Attribute o m apos) [] [] pos) X.env = (do
      let ov ← eval o X.env
      standAt apos.atName
      let (f, first) ← holding [ov] (getMethod ov m pl)
      callWith pos f first (backTo pos (starEach [] X.env)) (backToKw pos (keywordEach [] X.env))) := by rfl) : EE X M e cs (.Call (.Attribute o m apos) [] [] pos) (res i) cs1 where
  dm := ho.dm
  k := fun σ H Q S k => by
    obtain ⟨C, f, hm, hc, hmt, F⟩ := F.ex
    refine we_of (pe_methR0 (E := E0) pe_w hc hmt F hr pass0 ht) (ho.k σ H _ S fun v H1 S1 x1 r1 => ?_)
    obtain ⟨ad, C', dx, xs, rfl, hM, hm', hob, hl, rs⟩ := r_obj r1
    rw [hm] at hm'; cases hm'
    refine ⟨ad, dx, _, rfl, hob, zip_lookup_none hnm, ?_⟩
    refine sp_use i hp S1 (by rw [← hds]; exact .cons r1 .nil) (by simp) (by simp) rfl (fun q hq => .inr ⟨hq, by simp⟩) fun v H' S3 x3 r3 => k v H' S3 (x1.trans (by rw [← ho.dm]; exact x3)) r3
/-- C(..) -/
theorem mk_use {σ : L2.St} {H : Hp} {Q : VK} {C xa dx : Addr} {vs : List V} {cn : Str} {ns : List Str} {dz : ι → List D} {E : XK} (i : ι) (hp : pre i) (hm : X.mg cn = some (.ref C)) (S : Sit X.K X.mg M σ H e cs1) (r : Rs X.K X.mg M H vs (args i)) (hx : H xa = none) (hdx : H dx = none) (hne : dx ≠ xa)
    (k : ∀ v H', Sit X.K X.mg M σ H' e cs1 → Ext [] H H' → R X.K X.mg M H' v (.obj cn ns (dz i)) → Q v H') : mkSp X.K X.mg cn pre args ns dz (V.ref xa :: vs) (upd (upd H dx (.own xa)) xa (.ins C dx [])) (fun v H2 => v = .non ∧ Q (.ref xa) H2) E := by
  have ke : ∀ a o, H a = some o → upd (upd H dx (.own xa)) xa (.ins C dx []) a = some o := fun a o h => by
    rw [upd_ne (ne_of_none h hx), upd_ne (ne_of_none h hdx)]; exact h
  have tr : ∀ a, H a ≠ none → upd (upd H dx (.own xa)) xa (.ins C dx []) a ≠ none := fun a h => by
    cases q : H a with
    | none => exact absurd q h
    | some o => rw [ke a o q]; simp
  refine ⟨M, i, xa, C, dx, vs, hp, rfl, hm, upd_same, new_m S.mt hx, fun a ma => tr a (S.mt a ma), Rs.ext (fun a o _ h => ke a o h) (fun a n h z => z.elim n fun z => h (z ▸ hx)) _ r, fun H' mt xt ro => ⟨rfl, ?_⟩⟩
  have xt' : Ext [] H H' := fun a o h _ => xt a o (ke a o h) (by simpa using ne_of_none h hx)
  exact k _ H' (S.ex xt') xt' ro
theorem e_make {cn : Str} {ns : List Str} {dz : ι → List D} (F : Mkr X.prog X.w X.K X.mg X.base cn k (mkSp X.K X.mg cn pre args ns dz)) (hr : Room (k + 1) X.A) (ha : EA X M e cs (a :: es) ds cs1) (i : ι) (hp : pre i) (hds : ds = args i) (hg : Gl X cn := by rfl)
    (hdb : (cn == ("__debug__" : Str)) = false := by decide) (he : starEach (a :: es) X.env = (false, eval a X.env) :: starEach es X.env := by rfl) (hpl : (backTo pos (starEach es X.env)).any (·.1) = false := by rfl) : EE X M e cs (.Call (.Name cn p) (a :: es) [] pos) (.obj cn ns (dz i)) cs1 where
  dm := ha.dm
  k := fun σ H Q S k => by
    obtain ⟨C, f, hm, hmk, F⟩ := F.ex
    refine we_of (StX.pe_makeR (E := E0) hmk F hr hg hm pass0 pa_w hdb he hpl) (ha.k σ H _ S fun vs H1 S1 x1 r1 xa dx hx hdx hne => ?_)
    subst hds
    exact mk_use i hp hm S1 r1 hx hdx hne fun v H' S2 x2 r2 => k v H' S2 (x1.trans (x2.mono (by simp))) r2
theorem e_make0 {cn : Str} {ns : List Str} {dz : ι → List D} (F : Mkr X.prog X.w X.K X.mg X.base cn k (mkSp X.K X.mg cn pre args ns dz)) (hr : Room (k + 1) X.A) (i : ι) (hp : pre i) (hds : [] = args i) (hg : Gl X cn := by rfl)
    (hdb : (cn == ("__debug__" : Str)) = false := by decide) : EE X M e cs (.Call (.Name cn p) [] [] pos) (.obj cn ns (dz i)) cs where
  dm := rfl
  k := fun σ H Q S k => by
    obtain ⟨C, f, hm, hmk, F⟩ := F.ex
    refine we_of (pe_makeR0 (E := E0) hmk F hr hg hm pass0 hdb) (fun xa dx hx hdx hne => ?_)
    exact mk_use i hp hm S (by rw [← hds]; exact Rs.nil) hx hdx hne (fun v H' S2 x2 r2 => k v H' S2 (x2.mono (by simp)) r2)
/-- C.m(..), m static -/
theorem e_stat {cn : Str} {pl : Sem Bool} (F : Stc X.prog X.w X.K X.mg X.base cn m k (puSp X.K X.mg pre args res)) (hr : Room k X.A) (ha : EA X M e cs (a :: es) ds cs1) (i : ι) (hp : pre i) (hds : ds = args i) (hg : Gl X cn := by rfl) (hdb : (cn == ("__debug__" : Str)) = false := by decide)
    (hst : starEach (a :: es) X.env = (false, eval a X.env) :: starEach es X.env := by rfl) (hpl : (backTo pos (starEach es X.env)).any (·.1) = false := by rfl)
    (ht : eval (.Call (.Attribute (.Name cn p) m apos) (a :: es) [] pos) X.env = (do
      let ov ← eval (.Name cn p) X.env
      standAt apos.atName
      let (f, first) ← holding [ov] (getMethod ov m pl)
      callWith pos f first (backTo pos (starEach (a :: es) X.env)) (backToKw pos (keywordEach [] X.env))) := by rfl) : EE X M e cs (.Call (.Attribute (.Name cn p) m apos) (a :: es) [] pos) (res i) cs1 where
  dm := ha.dm
  k := fun σ H Q S k => by
    obtain ⟨C, mc, g, hm, hrd, hv, hk, F⟩ := F.ex
    refine we_of (pe_cstat (E := E0) (pe_glob (v := .ref C) hg hm rfl hdb) hrd hv hk F hr pass0 pa_w hst hpl ht) ⟨rfl, ha.k σ H _ S fun vs H1 S1 x1 r1 => ?_⟩
    subst hds
    exact sp_use i hp S1 r1 (by simp) (by simp) rfl (fun q hq => .inr ⟨hq, by simp⟩) fun v H' S2 x2 r2 => k v H' S2 (x1.trans (by rw [← ha.dm]; exact x2)) r2
theorem e_stat0 {cn : Str} {pl : Sem Bool} (F : Stc X.prog X.w X.K X.mg X.base cn m k (puSp X.K X.mg pre args res)) (hr : Room k X.A) (i : ι) (hp : pre i) (hds : [] = args i) (hg : Gl X cn := by rfl) (hdb : (cn == ("__debug__" : Str)) = false := by decide)
    (ht : eval (.Call (.Attribute (.Name cn p) m apos) [] [] pos) X.env = (do
      let ov ← eval (.Name cn p) X.env
      standAt apos.atName
      let (f, first) ← holding [ov] (getMethod ov m pl)
      callWith pos f first (backTo pos (starEach [] X.env)) (backToKw pos (keywordEach [] X.env))) := by rfl) : EE X M e cs (.Call (.Attribute (.Name cn p) m apos) [] [] pos) (res i) cs where
  dm := rfl
  k := fun σ H Q S k => by
    obtain ⟨C, mc, g, hm, hrd, hv, hk, F⟩ := F.ex
    refine we_of (pe_cstat0 (E := E0) (pe_glob (v := .ref C) hg hm rfl hdb) hrd hv hk F hr pass0 ht) ⟨rfl, ?_⟩
    exact sp_use i hp S (by rw [← hds]; exact Rs.nil) (by simp) (by simp) rfl (fun q hq => .inr ⟨hq, by simp⟩) fun v H' S2 x2 r2 => k v H' S2 x2 r2
/-- C.f, a constant of a class -/
theorem e_ccon {cn : Str} {C : Addr} {mc u : Value} {i : Int} (hm : X.mg cn = some (.ref C)) (hrd : ClX.CRead X.K C mc) (hv : ClX.CVal X.K C mc m (.int i) u) (hg : Gl X cn := by rfl) (hdb : (cn == ("__debug__" : Str)) = false := by decide)
    (hb : attributeBase (.Name cn p) m X.env (eval (.Name cn p) X.env) = eval (.Name cn p) X.env := by rfl) : EE X M e cs (.Attribute (.Name cn p) m pos) (.int i) cs where
  dm := rfl
  k := fun σ H Q S k => we_of (ClX.pe_cval (pe_glob (v := .ref C) hg hm rfl hdb) hb) ⟨C, mc, .int i, u, rfl, hrd, hv, k _ H S (Ext.refl _ _) (by simp [R])⟩
/-! ### built-ins -/
theorem e_blt {id : String} (q : CalD X (.builtin id) ds z) (ha : EA X M e cs (a :: es) ds cs1) (hm : X.mg n = none) (hv : bootBuiltins n = some (.builtin id) := by decide +kernel) (hg : Gl X n := by rfl) (hn : n ≠ "__name__" := by decide) (hdb : (n == ("__debug__" : Str)) = false := by decide)
    (he : starEach (a :: es) X.env = (false, eval a X.env) :: starEach es X.env := by rfl) (hpl : (backTo pos (starEach es X.env)).any (·.1) = false := by rfl) : EE X M e cs (.Call (.Name n p) (a :: es) [] pos) z cs1 where
  dm := ha.dm
  k := fun σ H Q S k => by
    obtain ⟨r, hr, hk⟩ := q
    exact we_of (pe_callB hr hg hm hv pa_w hn hdb he hpl) (ha.k σ H _ S fun vs H1 S1 x1 r1 => hk M H1 vs Q S1.mt r1 (fin S1 x1 k))
theorem e_bty {T : String} (q : CalD X (.type T) ds z) (ha : EA X M e cs (a :: es) ds cs1) (hm : X.mg n = none) (hv : bootBuiltins n = some (.type T) := by decide +kernel) (hg : Gl X n := by rfl) (hn : n ≠ "__name__" := by decide) (hdb : (n == ("__debug__" : Str)) = false := by decide)
    (he : starEach (a :: es) X.env = (false, eval a X.env) :: starEach es X.env := by rfl) (hpl : (backTo pos (starEach es X.env)).any (·.1) = false := by rfl) : EE X M e cs (.Call (.Name n p) (a :: es) [] pos) z cs1 where
  dm := ha.dm
  k := fun σ H Q S k => by
    obtain ⟨r, hr, hk⟩ := q
    exact we_of (pe_callTy hr hg hm hv pa_w hn hdb he hpl) (ha.k σ H _ S fun vs H1 S1 x1 r1 => hk M H1 vs Q S1.mt r1 (fin S1 x1 k))
/-- s.m(e), s a text -/
theorem e_strm {s : Str} {id : String} (q : StrD X id s [x] z) (ho : EE X M e cs o (.str s) cs1) (ha : EE X M e cs1 a x cs2) (slot : Slot "str" m id) (ty : typeOf (.builtin id) = pure (.type "method_descriptor"))
    (h1 : ∀ r, MtR X id r → PE X (.Call (.Attribute o m apos) [a] [] pos) (tM1 r (wE X o) (wE X a)) := by intro r hr; exact pe_m1 slot ty hr pe_w pe_w) : EE X M e cs (.Call (.Attribute o m apos) [a] [] pos) z cs2 where
  dm := ha.dm.trans ho.dm
  k := fun σ H Q S k => by
    obtain ⟨r, hr, hk⟩ := q
    refine we_of (h1 r hr) (ho.k σ H _ S fun v H1 S1 x1 r1 => ?_)
    simp [R] at r1
    subst r1
    exact ⟨⟨_, rfl⟩, ha.k σ H1 _ S1 fun u H2 S2 x2 r2 => hk M H2 [u] Q S2.mt (.cons r2 .nil) (fin S2 (x1.trans (by rw [← ho.dm]; exact x2)) k)⟩
end
end Od

set_option Elab.async false
set_option linter.all false
set_option maxRecDepth 100000
set_option maxHeartbeats 4000000
namespace Od
open PySem L2

/-! ### what is walked -/
/-- in every later heap the walk gives the data ds in turn -/
def Walks (X : Cx) (M : Addr → Prop) (J : It) (ds : List D) (H : Hp) : Prop := ∀ (M2 : Addr → Prop) (H2 : Hp), (∀ a o, ¬ M a → H a = some o → ¬ M2 a ∧ H2 a = some o) → (∀ a, M2 a → H2 a ≠ none) →
  (∀ (i : Nat) (d : D), ds[i]? = some d → J.go i H2 ∧ ∀ x H3, J.yld i H2 x H3 → Ext [] H2 H3 ∧ R X.K X.mg M2 H3 x d) ∧ J.stop ds.length H2
structure EI (X : Cx) (M : Addr → Prop) (e : DE) (cs : Cs) (tg iter : Expr) (ds : List D) (cs' : Cs) : Prop where
  dm : dom cs' = dom cs
  k : ∃ wi, PI X tg iter wi ∧ ∀ (σ : L2.St) (H : Hp) (Q : It → Hp → Prop), Sit X.K X.mg M σ H e cs → (∀ J H', Sit X.K X.mg M σ H' e cs' → Ext (dom cs) H H' → Walks X M J ds H' → Q J H') → wi σ H Q
section
variable {X : Cx} {M M' : Addr → Prop} {e : DE} {cs cs1 cs2 cs3 : Cs} {pos p pos' apos : Pos} {tg a b c ex o : Expr} {es : List Expr} {d x y z : D} {ds : List D} {n m : Str} {k j : Nat}
theorem r_lst {H : Hp} {v : V} (r : R X.K X.mg M H v (.lst ds)) : ∃ (a : Addr) (xs : List V), v = .ref a ∧ ¬ M a ∧ H a = some (.lst xs) ∧ Rs X.K X.mg M H xs ds := by unfold R at r; exact r
theorem r_tup {H : Hp} {v : V} (r : R X.K X.mg M H v (.tup ds)) : ∃ (a : Addr) (xs : List V), v = .ref a ∧ SqT X.K H a xs ∧ Rs X.K X.mg M H xs ds := by
  unfold R at r
  obtain ⟨a, xs, e, q, r⟩ := r
  refine ⟨a, xs, e, ?_, r⟩
  rcases q with ⟨_, q⟩ | q
  · exact .inl (.inl q)
  · exact .inr q
theorem later {M2 : Addr → Prop} {H H2 : Hp} (kp : ∀ a o, ¬ M a → H a = some o → ¬ M2 a ∧ H2 a = some o) {v : V} {d : D} (r : R X.K X.mg M H v d) : R X.K X.mg M2 H2 v d :=
  R.ext (fun a o n h => (kp a o n h).2) (fun a n h => by
    cases q : H a with
    | none => exact absurd q h
    | some o => exact (kp a o n q).1) _ r
theorem walks_list {H : Hp} {ad : Addr} {xs : List V} (nm : ¬ M ad) (h : H ad = some (.lst xs)) (r : Rs X.K X.mg M H xs ds) : Walks X M (Itl X.K ad) ds H := fun M2 H2 kp mt => by
  have h2 : SqL X.K H2 ad xs := .of (kp ad _ nm h).2
  have hl := r.length
  refine ⟨fun i d hd => ?_, ⟨xs, h2, Nat.le_of_eq hl⟩⟩
  obtain ⟨u, hu, ru⟩ := r.get hd
  refine ⟨⟨xs, u, h2, hu⟩, fun x H3 y => ?_⟩
  obtain ⟨rfl, y⟩ := y
  have := y xs h2
  rw [hu] at this; cases this
  exact ⟨Ext.refl _ _, later kp ru⟩
theorem walks_tup {H : Hp} {ad : Addr} {xs : List V} (h : (¬ M ad ∧ H ad = some (.tup xs)) ∨ KT X.K ad xs) (r : Rs X.K X.mg M H xs ds) : Walks X M (Itt X.K ad) ds H := fun M2 H2 kp mt => by
  have h2 : SqT X.K H2 ad xs := by
    rcases h with ⟨nm, h⟩ | h
    · exact .inl (.inl (kp ad _ nm h).2)
    · exact .inr h
  have hl := r.length
  refine ⟨fun i d hd => ?_, ⟨xs, h2, Nat.le_of_eq hl⟩⟩
  obtain ⟨u, hu, ru⟩ := r.get hd
  refine ⟨⟨xs, u, h2, hu⟩, fun x H3 y => ?_⟩
  obtain ⟨rfl, y⟩ := y
  have := y xs h2
  rw [hu] at this; cases this
  exact ⟨Ext.refl _ _, later kp ru⟩
theorem ei_list (ha : EE X M e cs a (.lst ds) cs1) : EI X M e cs tg a ds cs1 := ⟨ha.dm, _, pi_list pe_w, fun σ H Q S k => ha.k σ H _ S fun v H1 S1 x1 r1 => by
  obtain ⟨ad, xs, rfl, nm, h, r⟩ := r_lst r1
  exact ⟨ad, rfl, ⟨xs, .of h⟩, k _ H1 S1 x1 (walks_list nm h r)⟩⟩
theorem ei_tup (ha : EE X M e cs a (.tup ds) cs1) : EI X M e cs tg a ds cs1 := ⟨ha.dm, _, pi_tup pe_w, fun σ H Q S k => ha.k σ H _ S fun v H1 S1 x1 r1 => by
  unfold R at r1
  obtain ⟨ad, xs, rfl, h, r⟩ := r1
  refine ⟨ad, rfl, ⟨xs, ?_⟩, k _ H1 S1 x1 (walks_tup h r)⟩
  rcases h with ⟨_, h⟩ | h
  · exact .inl (.inl h)
  · exact .inr h⟩
/-- the signs of a text -/
def signs (s : Str) : List Str := s.cps.toList.map fun c => ⟨#[c]⟩
theorem ei_str {s : Str} (ha : EE X M e cs a (.str s) cs1) : EI X M e cs tg a ((signs s).map D.str) cs1 := ⟨ha.dm, _, pi_str pe_w, fun σ H Q S k => ha.k σ H _ S fun v H1 S1 x1 r1 => by
  simp [R] at r1
  refine ⟨s, r1, k _ H1 S1 x1 fun M2 H2 kp mt => ⟨fun i d hd => ?_, ?_⟩⟩
  · simp [signs] at hd
    obtain ⟨c, hc, rfl⟩ := hd
    have hc' : s.cps[i]? = some c := by rw [← Array.getElem?_toList]; simpa using hc
    refine ⟨(Array.getElem?_eq_some_iff.mp hc').1, fun x H3 y => ?_⟩
    obtain ⟨rfl, c', hc2, rfl⟩ := y
    rw [hc'] at hc2; cases hc2
    exact ⟨Ext.refl _ _, by simp [R]⟩
  · show s.cps.size ≤ _
    simp [signs]⟩
def ups (lo : Int) (n : Nat) : List Int := (List.range n).map fun (i : Nat) => lo + (i : Int)
theorem walks_rng {H : Hp} {lo : Int} {n : Nat} : Walks X M (Itr lo n) ((ups lo n).map D.int) H := fun M2 H2 kp mt => by
  refine ⟨fun i d hd => ?_, ?_⟩
  · have hi : i < n := by
      have := (List.getElem?_eq_some_iff.mp hd).1
      simpa [ups] using this
    have hd' : d = .int (lo + (i : Int)) := by
      simp [ups, hi] at hd
      exact hd.symm
    subst hd'
    refine ⟨hi, fun x H3 y => ?_⟩
    obtain ⟨rfl, rfl⟩ := y
    exact ⟨Ext.refl _ _, by simp [R]⟩
  · show n ≤ _
    simp [ups]
theorem ei_rng1 {i : Int} (ha : EE X M e cs a (.int i) cs1) (hm : X.mg "range" = none) (hi : -(2 ^ 62) ≤ i ∧ i < 2 ^ 62) (hg : Gl X "range" := by rfl) (hs : starEach [a] X.env = [(false, eval a X.env)] := by rfl) : EI X M e cs tg (.Call (.Name "range" p) [a] [] pos) ((ups 0 i.toNat).map D.int) cs1 :=
  ⟨ha.dm, _, pi_range1 hg hm (pa_cons pe_w pa_nil (by rw [hs]; rfl)) hs, fun σ H Q S k => ha.k σ H _ S fun v H1 S1 x1 r1 => by
    simp [R] at r1
    exact ⟨i, by rw [r1], hi.1, hi.2, k _ H1 S1 x1 walks_rng⟩⟩
theorem ei_rng2 {i j : Int} (ha : EE X M e cs a (.int i) cs1) (hb : EE X M e cs1 b (.int j) cs2) (hm : X.mg "range" = none) (hi : -(2 ^ 62) ≤ i ∧ i < 2 ^ 62 ∧ -(2 ^ 62) ≤ j ∧ j < 2 ^ 62) (hg : Gl X "range" := by rfl)
    (hs : starEach [a, b] X.env = [(false, eval a X.env), (false, eval b X.env)] := by rfl) (hs2 : starEach [b] X.env = [(false, eval b X.env)] := by rfl) : EI X M e cs tg (.Call (.Name "range" p) [a, b] [] pos) ((ups i (j - i).toNat).map D.int) cs2 :=
  ⟨hb.dm.trans ha.dm, _, pi_range2 hg hm (pa_cons pe_w (pa_cons pe_w pa_nil (by rw [hs2]; rfl)) (by rw [hs, hs2])) hs hs2, fun σ H Q S k => ha.k σ H _ S fun v H1 S1 x1 r1 => hb.k σ H1 _ S1 fun u H2 S2 x2 r2 => by
    simp [R] at r1 r2
    exact ⟨i, j, by rw [r1, r2], hi, k _ H2 S2 (x1.trans (by rw [← ha.dm]; exact x2)) walks_rng⟩⟩

/-- a marked thing, none of the told ones, is written -/
theorem Sit.upd {K : PySem.W.Frag} {mg : Str → Option Value} {σ : L2.St} {H : Hp} {p : Addr} {o : HO} (S : Sit K mg M σ H e cs) (hp : M p) (hd : p ∉ dom cs) : Sit K mg M σ (upd H p o) e cs where
  mt := fun a m => by
    by_cases h : a = p
    · subst h; rw [upd_same]; simp
    · rw [upd_ne h]; exact S.mt a m
  len := S.len
  env := fun i d q => by
    obtain ⟨v, e1, r⟩ := S.env i d q
    exact ⟨v, e1, R.ext (fun a u n h => by rw [upd_ne (fun z => n (by rw [z]; exact hp))]; exact h) (fun _ n _ => n) d r⟩
  cel := fun q hq => by
    obtain ⟨m, c⟩ := S.cel q hq
    have hne : q.1 ≠ p := fun z => hd (z ▸ List.mem_map_of_mem (f := (·.1)) hq)
    exact ⟨m, c.ext (fun a u n h => by rw [upd_ne (fun z => n (by rw [z]; exact hp))]; exact h) (fun _ n _ => n) fun u h => by rw [upd_ne hne]; exact h⟩
  nd := S.nd

/-! ### comprehensions -/
theorem wipe_get {σ : L2.St} {i : Nat} : ∀ {vs : List Nat}, (wipe σ vs)[i]? = if i ∈ vs ∧ i < σ.length then some none else σ[i]?
  | [] => by simp [wipe]
  | v :: vs => by
    unfold wipe
    by_cases h : v = i
    · subst h
      by_cases hl : v < σ.length
      · rw [List.getElem?_set_self (by rw [wipe_length]; exact hl)]; simp [hl]
      · rw [List.getElem?_eq_none (by rw [List.length_set, wipe_length]; omega), if_neg (by simp [hl]), List.getElem?_eq_none (by omega)]
    · rw [List.getElem?_set_ne h, wipe_get (vs := vs)]
      have : i ≠ v := fun e => h e.symm
      simp [this]
theorem wipe_same {σ σ' : L2.St} {vs : List Nat} (hl : σ'.length = σ.length) (h : ∀ i, i ∉ vs → σ'[i]? = σ[i]?) : wipe σ' vs = wipe σ vs := by
  apply List.ext_getElem?
  intro i
  rw [wipe_get, wipe_get, hl]
  by_cases q : i ∈ vs
  · by_cases l : i < σ.length
    · simp [q, l]
    · rw [if_neg (by simp [l]), if_neg (by simp [l]), List.getElem?_eq_none (by omega), List.getElem?_eq_none (by omega)]
  · simp [q, h i q]
def outs (keep : Nat → Bool) (out : Nat → D) (n : Nat) : List D := ((List.range n).filter keep).map out
theorem outs_yes {keep : Nat → Bool} {out : Nat → D} {n : Nat} (h : keep n = true) : outs keep out (n + 1) = outs keep out n ++ [out n] := by simp [outs, List.range_succ, List.filter_append, h]
theorem outs_no {keep : Nat → Bool} {out : Nat → D} {n : Nat} (h : keep n = false) : outs keep out (n + 1) = outs keep out n := by simp [outs, List.range_succ, List.filter_append, h]
theorem range_self : ∀ ds : List D, (List.range ds.length).map (fun i => (ds[i]?).getD .non) = ds := fun ds => by
  apply List.ext_getElem?
  intro i
  by_cases hi : i < ds.length
  · simp [hi]
  · simp [hi]
theorem outs_filter (p : D → Bool) (f : D → D) (ds : List D) : outs (fun i => p ((ds[i]?).getD .non)) (fun i => f ((ds[i]?).getD .non)) ds.length = (ds.filter p).map f := by
  have e := range_self ds
  conv => rhs; rw [← e]
  rw [List.filter_map, List.map_map]
  rfl
theorem outs_map (f : D → D) (ds : List D) : outs (fun _ => true) (fun i => f ((ds[i]?).getD .non)) ds.length = ds.map f := by
  have h := outs_filter (fun _ => true) f ds
  rw [h]
  congr 1
  exact List.filter_eq_self.mpr fun _ _ => rfl
theorem outs_len {keep : Nat → Bool} {out : Nat → D} {n : Nat} : (outs keep out n).length ≤ n := by
  unfold outs
  rw [List.length_map]
  exact Nat.le_trans (List.length_filter_le _ _) (by simp)
abbrev blkOf (X : Cx) (scope : Scope) (s : Shared) (H : Hp) (C : Addr) (cl : List (Str × Addr)) (fp : List Addr) : Cx := X.blk s H scope (compEnvC scope cl C X.env) fp
/-- the target of a comprehension: what the names hold behind it -/
structure CTg (X : Cx) (scope : Scope) (vs : List Nat) (e : DE) (tg : Expr) (ef : D → DE) (P : D → Prop) : Prop where
  k : ∃ g, (∀ (s : Shared) (H : Hp) (C : Addr) (cl : List (Str × Addr)) (fp : List Addr), PG (blkOf X scope s H C cl fp) tg g) ∧
    ∀ (M' : Addr → Prop) (cs : Cs) (σ : L2.St) (H : Hp) (x : V) (d : D) (Q : L2.St → Hp → Prop), P d → Sit X.K X.mg M' (wipe σ vs) H (wipeD e vs) cs → R X.K X.mg M' H x d → (∀ σ', wipe σ' vs = wipe σ vs → Sit X.K X.mg M' σ' H (ef d) cs → Q σ' H) → g x (wipe σ vs) H Q
theorem ctg_name {scope : Scope} {vs : List Nat} (j : Nat) (hN : X.N.Nodup) (hjv : j ∈ vs) (hj : X.N[j]? = some n := by rfl) (hx : ∀ (cl : List (Str × Addr)) (C : Addr), Loc (compEnvC scope cl C X.env).scope n := by intro _ _; first | exact .inl rfl | exact .inr rfl)
    (hf : ∀ (s : Shared) (H : Hp) (C : Addr) (cl : List (Str × Addr)) (fp : List Addr), (blkOf X scope s H C cl fp).fn n = true ∨ (blkOf X scope s H C cl fp).env.scope.names.lookup n = some .local := by intro _ _ _ _ _; first | exact .inr rfl | exact .inl rfl) :
    CTg X scope vs e (.Name n p) (fun d => (wipeD e vs).set j (some d)) (fun _ => True) := ⟨gName j, fun s H C cl fp => pg_name hN hj (hx cl C) (hf s H C cl fp), fun M' cs σ H x d Q _ S r k => by
  refine k _ (wipe_same (by simp [wipe_length]) fun i hi => ?_) (S.set j r)
  have hji : j ≠ i := fun q => hi (q ▸ hjv)
  rw [List.getElem?_set_ne hji, wipe_get]
  simp [hi]⟩
/-- for a, b in ..: pairs -/
theorem ctg_pair {scope : Scope} {vs : List Nat} {n2 : Str} {p2 p3 : Pos} {k0} (i j : Nat) (hN : X.N.Nodup) (hiv : i ∈ vs) (hjv : j ∈ vs) (hi : X.N[i]? = some n := by rfl) (hj : X.N[j]? = some n2 := by rfl) (hx : ∀ (cl : List (Str × Addr)) (C : Addr), Loc (compEnvC scope cl C X.env).scope n := by intro _ _; first | exact .inl rfl | exact .inr rfl)
    (hx2 : ∀ (cl : List (Str × Addr)) (C : Addr), Loc (compEnvC scope cl C X.env).scope n2 := by intro _ _; first | exact .inl rfl | exact .inr rfl)
    (hf : ∀ (s : Shared) (H : Hp) (C : Addr) (cl : List (Str × Addr)) (fp : List Addr), (blkOf X scope s H C cl fp).fn n = true ∨ (blkOf X scope s H C cl fp).env.scope.names.lookup n = some .local := by intro _ _ _ _ _; first | exact .inr rfl | exact .inl rfl)
    (hf2 : ∀ (s : Shared) (H : Hp) (C : Addr) (cl : List (Str × Addr)) (fp : List Addr), (blkOf X scope s H C cl fp).fn n2 = true ∨ (blkOf X scope s H C cl fp).env.scope.names.lookup n2 = some .local := by intro _ _ _ _ _; first | exact .inr rfl | exact .inl rfl) (hc : X.calm = true := by rfl)
    (h1 : ∀ E : Env, (assignEach [.Name n p, .Name n2 p2] E).length = 2 := by intro _; rfl) (h2 : ∀ E : Env, (assignEach [.Name n p, .Name n2 p2] E).findIdx? (·.1) = none := by intro _; rfl)
    (h3 : ∀ E : Env, (assignEach [.Name n p, .Name n2 p2] E).map (·.2) = assign (.Name n p) E :: (assignEach [.Name n2 p2] E).map (·.2) := by intro _; rfl) (h4 : ∀ E : Env, (assignEach [.Name n2 p2] E).map (·.2) = assign (.Name n2 p2) E :: (assignEach [] E).map (·.2) := by intro _; rfl) :
    CTg X scope vs e (.Tuple [.Name n p, .Name n2 p2] k0 p3) (fun d => match d with | .tup [x, y] => ((wipeD e vs).set i (some x)).set j (some y) | _ => []) (fun d => ∃ x y, d = .tup [x, y]) :=
  ⟨gTup X.K 2 (gCons (gName i) (gCons (gName j) gNil)), fun s H C cl fp => pg_tup hc (pgs_cons (pg_name hN hi (hx cl C) (hf s H C cl fp)) (pgs_cons (pg_name hN hj (hx2 cl C) (hf2 s H C cl fp)) pgs_nil (h4 _)) (h3 _)) (h1 _) (h2 _), fun M' cs σ H v d Q pd S r k => by
    obtain ⟨x, y, rfl⟩ := pd
    obtain ⟨a, xs, rfl, hq, rr⟩ := r_tup r
    have hl := rr.length
    match xs, rr, hl with
    | [u, w], rr, _ =>
      unfold Rs at rr
      obtain ⟨ru, rr⟩ := rr
      unfold Rs at rr
      refine ⟨a, [u, w], rfl, hq, rfl, u, [w], rfl, w, [], rfl, rfl, ?_⟩
      refine k _ (wipe_same (by simp [wipe_length]) fun l hl => ?_) ((S.set i ru).set j rr.1)
      have h5 : j ≠ l := fun q => hl (q ▸ hjv)
      have h6 : i ≠ l := fun q => hl (q ▸ hiv)
      rw [List.getElem?_set_ne h5, List.getElem?_set_ne h6, wipe_get]
      simp [hl]⟩
/-- the elements, turn by turn -/
theorem lc_core' {scope : Scope} {own : List (Str × Nat)} {iter elt : Expr} {ifs : List Expr} {ef : D → DE} {P : D → Prop} (hi : EI X M e cs tg iter ds cs1) (ht : CTg X scope (own.map (·.2)) e tg ef P) (hP : ∀ d ∈ ds, P d) (S mid : Nat → Cs) (keep : Nat → Bool) (out : Nat → D) (hS0 : S 0 = cs1) (hSd : ∀ i, dom (S i) = dom cs1) (hmd : ∀ i, dom (mid i) = dom cs1) (hn : ds.length ≤ 100000)
    (tt : TT) (htt : ∀ (s : Shared) (H : Hp) (C : Addr) (cl : List (Str × Addr)) (fp : List Addr), PTs (blkOf X scope s H C cl fp) ifs tt)
    (turnT : ∀ (i : Nat) (d : D), ds[i]? = some d → ∀ (M' : Addr → Prop), (∀ a, M a → M' a) → ∀ (σ : L2.St) (H : Hp) (Q : Bool → Hp → Prop), Sit X.K X.mg M' σ H (ef d) (S i) → (∀ H', Sit X.K X.mg M' σ H' (ef d) (mid i) → Ext (dom cs1) H H' → Q (keep i) H') → tt σ H Q)
    (turnE : ∀ (i : Nat) (d : D), ds[i]? = some d → keep i = true → ∀ (M' : Addr → Prop), (∀ a, M a → M' a) → ∀ (s : Shared) (H : Hp) (C : Addr) (cl : List (Str × Addr)) (fp : List Addr), EE (blkOf X scope s H C cl fp) M' (ef d) (mid i) elt (out i) (S (i + 1)))
    (turnN : ∀ (i : Nat) (d : D), ds[i]? = some d → keep i = false → S (i + 1) = mid i)
    (hc : X.calm = true) (hN : X.N.Nodup) (ok : BlkOk X.N X.env.scope scope own) (hs : ∀ x, foldedSetIterable iter X.env x = pure x) :
    ∃ t, PE X (.ListComp elt [⟨tg, iter, ifs, 0⟩] scope pos) t ∧ (∀ (σ : L2.St) (H : Hp) (Q : VK), Sit X.K X.mg M σ H e cs → (∀ v H', Sit X.K X.mg M σ H' e (S ds.length) → Ext (dom cs) H H' → R X.K X.mg M H' v (.lst (outs keep out ds.length)) → Q v H') → t σ H Q) ∧
      ∀ (y : Str) (py spos : Pos) (i : Nat) , X.N[i]? = some y → X.env.scope.names.lookup y = some .local → swapsWith (.ListComp elt [⟨tg, iter, ifs, 0⟩] scope pos) (some (.Name y py)) spos.line X.env = pure true →
        PS X (.Assign [.Name y py] (.ListComp elt [⟨tg, iter, ifs, 0⟩] scope pos) spos) (tAsg t (gName i)) := by
  obtain ⟨dmI, wi, hpi, ki⟩ := hi
  obtain ⟨g, hg, hgk⟩ := ht.k
  let teB : TE := fun σ H Q => ∀ (s : Shared) (H0 : Hp) (C : Addr) (cl : List (Str × Addr)) (fp : List Addr), wE (blkOf X scope s H0 C cl fp) elt σ H Q
  have heB : ∀ (s : Shared) (H : Hp) (C : Addr) (cl : List (Str × Addr)) (fp : List Addr), PE (X.blk s H scope (compEnvC scope cl C X.env) fp) elt teB := fun s H C cl fp => ⟨fun pins s1 σ H1 Q I h => h s H C cl fp pins s1 I⟩
  refine ⟨_, pe_lc (own := own) (g := g) (tt := tt) (te := teB) hc hN hpi ok hg htt heB hs, fun σ H0 Q St k => ?_, fun y py spos i h1 h2 h3 => ps_setLc hc hN h1 h2 h3 hpi ok hg htt heB hs⟩
  refine ki σ H0 _ St fun J H1 S1 x1 wk Dl hD => ?_
  let M' : Addr → Prop := fun a => M a ∨ a = Dl
  have hM : ∀ a, M a → M' a := fun a h => .inl h
  have hDo : Dl ∉ dom cs1 := fun z => by
    obtain ⟨q, hq, rfl⟩ := List.mem_map.mp z
    exact (S1.cel q hq).2.ne hD
  let Pv : Nat → Hp → Prop := fun i H => ∃ acc, H Dl = some (.lst acc) ∧ Rs X.K X.mg M' H acc (outs keep out i) ∧ Sit X.K X.mg M' (L2.wipe σ (own.map (·.2))) H (wipeD e (own.map (·.2))) (S i) ∧ Ext (dom cs1) H1 H
  have wk' : ∀ i H, Pv i H → (∀ (i : Nat) (d : D), ds[i]? = some d → J.go i H ∧ ∀ x H3, J.yld i H x H3 → Ext [] H H3 ∧ R X.K X.mg M' H3 x d) ∧ J.stop ds.length H := fun i H p => by
    obtain ⟨acc, h1, h2, h3, h4⟩ := p
    refine wk M' H (fun a o nm h => ?_) h3.mt
    have hd : a ∉ dom cs1 := fun z => by
      obtain ⟨q, hq, rfl⟩ := List.mem_map.mp z
      exact nm (S1.cel q hq).1
    exact ⟨fun z => z.elim nm fun z => ne_of_none h hD z, h4 a o h hd⟩
  refine ⟨fun i m H => m = ds.length - i ∧ i ≤ ds.length ∧ Pv i H, ⟨ds.length, by simp, Nat.zero_le _, [], upd_same, Rs.nil, ?_, Ext.new hD⟩, ?_⟩
  · rw [hS0]; exact (S1.mark hD).wipe _
  rintro i mm H ⟨rfl, hil, pv⟩
  obtain ⟨w1, w2⟩ := wk' i H pv
  obtain ⟨acc, h1, h2, h3, h4⟩ := pv
  by_cases hlt : i < ds.length
  · obtain ⟨d, hd⟩ : ∃ d, ds[i]? = some d := ⟨_, List.getElem?_eq_getElem hlt⟩
    obtain ⟨g1, g2⟩ := w1 i d hd
    refine .inr ⟨g1, Pv (i + 1), fun H' p' => ⟨ds.length - (i + 1), by omega, rfl, hlt, p'⟩, fun x H3 y => ?_⟩
    obtain ⟨x3, r3⟩ := g2 x H3 y
    have S3 := h3.ex x3
    refine hgk M' (S i) σ H3 x d _ (hP d (List.mem_of_getElem? hd)) S3 r3 fun σ' hσ S4 => ⟨hσ, turnT i d hd M' hM σ' H3 _ S4 fun H4 S5 x5 => ?_⟩
    have hacc3 : H3 Dl = some (.lst acc) := x3 Dl _ h1 (by simp)
    have hacc4 : H4 Dl = some (.lst acc) := x5 Dl _ hacc3 hDo
    have h24 : Rs X.K X.mg M' H4 acc (outs keep out i) := by
      have q := Rs.ext (M' := M') (fun a o _ h => x3 a o h (by simp)) (fun _ n _ => n) _ h2
      exact S4.rs (by rw [hSd i]; exact x5) q
    have x4 : Ext (dom cs1) H1 H4 := (h4.trans (x3.mono (by simp))).trans x5
    have Sw : Sit X.K X.mg M' (L2.wipe σ (own.map (·.2))) H4 (wipeD e (own.map (·.2))) (mid i) := by
      exact S3.step (by rw [hmd i, hSd i]) (by rw [hSd i]; exact x5) S5.mt S5.cel
    cases hk : keep i with
    | true =>
      rw [if_pos rfl]
      intro s0 H0' C cl fp
      refine (turnE i d hd hk M' hM s0 H0' C cl fp).k σ' H4 _ S5 fun v H5 S6 x6 r6 => ?_
      rw [hmd i] at x6
      have hacc5 : H5 Dl = some (.lst acc) := x6 Dl _ hacc4 hDo
      have hl : acc.length ≤ i := by rw [h24.length]; exact outs_len
      have h25 : Rs X.K X.mg M' H5 acc (outs keep out i) := S5.rs (by rw [hmd i]; exact x6) h24
      have Sw5 : Sit X.K X.mg M' (L2.wipe σ (own.map (·.2))) H5 (wipeD e (own.map (·.2))) (S (i + 1)) := Sw.step (by rw [hmd i, hSd (i + 1)]) (by rw [hmd i]; exact x6) S6.mt S6.cel
      refine ⟨acc, hacc5, Nat.lt_of_le_of_lt hl (Nat.lt_of_lt_of_le hlt (Nat.le_trans hn (by decide))), acc ++ [v], upd_same, ?_, Sw5.upd (.inr rfl) (by rw [hSd]; exact hDo), fun a o h n => ?_⟩
      · rw [outs_yes hk]
        exact Rs.ext (M' := M') (fun a o nm h => by rw [upd_ne (fun z => nm (.inr z))]; exact h) (fun _ n _ => n) _ (h25.append (.cons r6 .nil))
      · rw [upd_ne (ne_of_none h hD)]
        exact x6 a o (x4 a o h n) n
    | false =>
      rw [if_neg (by simp)]
      refine ⟨acc, hacc4, by rw [outs_no hk]; exact h24, ?_, x4⟩
      rw [turnN i d hd hk]; exact Sw
  · have e0 : i = ds.length := by omega
    subst e0
    refine .inl ⟨w2, k _ H ?_ (x1.trans (by rw [← dmI]; exact h4)) ?_⟩
    · exact S1.step (hSd _) h4 (fun a m => h3.mt a (.inl m)) fun q hq => ⟨(by
        have hq' : q.1 ∈ dom cs1 := by rw [← hSd ds.length]; exact List.mem_map_of_mem (f := (·.1)) hq
        obtain ⟨q0, h0, e0⟩ := List.mem_map.mp hq'
        have := (S1.cel q0 h0).1
        rwa [e0] at this), (h3.cel q hq).2.ext (fun a o _ h => h) (fun a n _ z => n (.inl z)) fun o h => h⟩
    · unfold R
      exact ⟨Dl, acc, rfl, new_m S1.mt hD, h1, Rs.ext (fun a o _ h => h) (fun a n _ z => n (.inl z)) _ h2⟩
/-- [elt for tg in iter], each element on its own -/
theorem e_lc {scope : Scope} (own : List (Str × Nat)) {iter elt : Expr} {ef : D → DE} {P : D → Prop} (f : D → D) (hi : EI X M e cs tg iter ds cs1) (ht : CTg X scope (own.map (·.2)) e tg ef P) (hP : ∀ d ∈ ds, P d) (hn : ds.length ≤ 100000)
    (turn : ∀ d ∈ ds, ∀ (M' : Addr → Prop), (∀ a, M a → M' a) → ∀ (s : Shared) (H : Hp) (C : Addr) (cl : List (Str × Addr)) (fp : List Addr), EE (blkOf X scope s H C cl fp) M' (ef d) cs1 elt (f d) cs1)
    (ok : BlkOk X.N X.env.scope scope own) (hN : X.N.Nodup) (hc : X.calm = true := by rfl) (hs : ∀ x, foldedSetIterable iter X.env x = pure x := by intro _; rfl) :
    EE X M e cs (.ListComp elt [⟨tg, iter, [], 0⟩] scope pos) (.lst (ds.map f)) cs1 where
  dm := hi.dm
  k := fun σ H Q S k => by
    have out : ∀ (i : Nat) (d : D), ds[i]? = some d → f ((ds[i]?).getD .non) = f d := fun i d h => by rw [h]; rfl
    obtain ⟨t, h1, h2, _⟩ := lc_core' (pos := pos) (elt := elt) (ifs := []) hi ht hP (fun _ => cs1) (fun _ => cs1) (fun _ => true) (fun i => f ((ds[i]?).getD .non)) rfl (fun _ => rfl) (fun _ => rfl) hn tYes (fun _ _ _ _ _ => pts_nil) (fun i d hd M' hM σ H Q S k => k H S (Ext.refl _ _))
      (fun i d hd _ M' hM s H C cl fp => by rw [out i d hd]; exact turn d (List.mem_of_getElem? hd) M' hM s H C cl fp) (fun i d hd h => by cases h) hc hN ok hs
    refine we_of h1 (h2 σ H Q S fun v H' S' x' r' => k v H' S' x' ?_)
    rw [outs_map] at r'
    exact r'
/-- [elt for tg in iter if c], test and element on their own -/
theorem e_lcF {scope : Scope} (own : List (Str × Nat)) {iter elt c : Expr} {ef : D → DE} {P : D → Prop} (q : D → Bool) (f : D → D) (hi : EI X M e cs tg iter ds cs1) (ht : CTg X scope (own.map (·.2)) e tg ef P) (hP : ∀ d ∈ ds, P d) (hn : ds.length ≤ 100000)
    (test : ∀ d ∈ ds, ∀ (M' : Addr → Prop), (∀ a, M a → M' a) → ∀ (s : Shared) (H : Hp) (C : Addr) (cl : List (Str × Addr)) (fp : List Addr), ET (blkOf X scope s H C cl fp) M' (ef d) cs1 c (q d) cs1)
    (turn : ∀ d ∈ ds, q d = true → ∀ (M' : Addr → Prop), (∀ a, M a → M' a) → ∀ (s : Shared) (H : Hp) (C : Addr) (cl : List (Str × Addr)) (fp : List Addr), EE (blkOf X scope s H C cl fp) M' (ef d) cs1 elt (f d) cs1)
    (ok : BlkOk X.N X.env.scope scope own) (hN : X.N.Nodup) (hc : X.calm = true := by rfl) (hs : ∀ x, foldedSetIterable iter X.env x = pure x := by intro _; rfl) :
    EE X M e cs (.ListComp elt [⟨tg, iter, [c], 0⟩] scope pos) (.lst ((ds.filter q).map f)) cs1 where
  dm := hi.dm
  k := fun σ H Q S k => by
    have out : ∀ (i : Nat) (d : D), ds[i]? = some d → (ds[i]?).getD .non = d := fun i d h => by rw [h]; rfl
    obtain ⟨t, h1, h2, _⟩ := lc_core' (pos := pos) (elt := elt) (ifs := [c]) hi ht hP (fun _ => cs1) (fun _ => cs1) (fun i => q ((ds[i]?).getD .non)) (fun i => f ((ds[i]?).getD .non)) rfl (fun _ => rfl) (fun _ => rfl) hn
      (fun σ H Q => ∀ (s : Shared) (H0 : Hp) (C : Addr) (cl : List (Str × Addr)) (fp : List Addr), wT (blkOf X scope s H0 C cl fp) c σ H Q) (fun s H C cl fp => pts_one ⟨fun pins s1 σ H1 Q I h => h s H C cl fp pins s1 I⟩)
      (fun i d hd M' hM σ H Q S k s0 H0 C cl fp => by
        rw [out i d hd] at k
        exact (test d (List.mem_of_getElem? hd) M' hM s0 H0 C cl fp).k σ H Q S k)
      (fun i d hd hk M' hM s H C cl fp => by
        rw [out i d hd] at hk ⊢
        exact turn d (List.mem_of_getElem? hd) hk M' hM s H C cl fp) (fun i d hd h => rfl) hc hN ok hs
    refine we_of h1 (h2 σ H Q S fun v H' S' x' r' => k v H' S' x' ?_)
    rw [outs_filter] at r'
    exact r'
end
end Od

set_option Elab.async false
set_option linter.all false
set_option maxRecDepth 100000
set_option maxHeartbeats 4000000
namespace Od
open PySem L2

/-! ### statements: P is wanted wherever the data stand so, behind the heaps of fr (each with what may change of it) -/
abbrev Frs := List (List Addr × Hp)
def Fr (fr : Frs) (H : Hp) : Prop := ∀ q ∈ fr, Ext q.1 q.2 H
def Lo (fr : Frs) (cs : Cs) : Prop := ∀ q ∈ fr, ∀ a ∈ dom cs, a ∈ q.1 ∨ q.2 a = none
def At (X : Cx) (M : Addr → Prop) (e : DE) (cs : Cs) (fr : Frs) (P : L2.St → Hp → Prop) : Prop :=
  ∀ σ H, Sit X.K X.mg M σ H e cs → Fr fr H → Lo fr cs → P σ H
section
variable {X : Cx} {M : Addr → Prop} {e e1 : DE} {cs cs1 cs2 : Cs} {fr : Frs} {D0 : Ends} {pos p pos' : Pos} {a b c ex : Expr} {rest st st2 : List Stmt} {d x y z : D} {ds : List D} {n : Str}
theorem ext_on {H H' : Hp} (x : Fr fr H) (l : Lo fr cs) (y : Ext (dom cs) H H') : Fr fr H' := fun f hf a o h n => y a o (x f hf a o h n) fun z => by
  rcases l f hf a z with q | q
  · exact n q
  · rw [h] at q; cases q
theorem lo_of (l : Lo fr cs) (h : dom cs1 = dom cs) : Lo fr cs1 := fun f hf a ha => l f hf a (by rw [← h]; exact ha)
theorem at_nil (h : At X M e cs fr D0.nx) : At X M e cs fr (wSs X [] D0) := fun σ H S x l => wss_of pss_nil (h σ H S x l)
theorem at_set (i : Nat) (ha : EE X M e cs ex d cs1) (k : At X M (e.set i (some d)) cs1 fr (wSs X rest D0)) (hN : X.N.Nodup) (hi : X.N[i]? = some n := by rfl) (hx : Loc X.env.scope n := by first | exact .inl rfl | exact .inr rfl)
    (hs : swapsWith ex (some (.Name n pos')) pos.line X.env = pure false := by rfl) (hf : X.fn n = true ∨ X.env.scope.names.lookup n = some .local := by first | exact .inl rfl | exact .inr rfl) : At X M e cs fr (wSs X (.Assign [.Name n pos'] ex pos :: rest) D0) := fun σ H S x l =>
  wss_of (pss_cons (ps_set hN hi hx pe_w hs hf) pss_w) (ha.k σ H _ S fun v H1 S1 x1 r1 => k _ H1 (S1.set i r1) (ext_on x l x1) (lo_of l ha.dm))
/-- a, b = x, y -/
theorem at_par {px py pt pt2 : Pos} {m : Str} {kt k2} (i j : Nat) (ha : EE X M e cs a x cs1) (hb : EE X M e cs1 b y cs2) (k : At X M ((e.set i (some x)).set j (some y)) cs2 fr (wSs X rest D0)) (hN : X.N.Nodup)
    (ps : ∀ ta, PA X [a, b] ta → PS X (.Assign [.Tuple [.Name n px, .Name m py] kt pt] (.Tuple [a, b] k2 pt2) pos) (tPar i j ta)) (hst : starEach [a, b] X.env = (false, eval a X.env) :: starEach [b] X.env := by rfl) (hst2 : starEach [b] X.env = (false, eval b X.env) :: starEach [] X.env := by rfl) :
    At X M e cs fr (wSs X (.Assign [.Tuple [.Name n px, .Name m py] kt pt] (.Tuple [a, b] k2 pt2) pos :: rest) D0) := fun σ H S x l => by
  have hab : EA X M e cs [a, b] [_, _] cs2 := a_cons ha (a_cons hb a_nil hst2) hst
  refine wss_of (pss_cons (ps _ pa_w) pss_w) (hab.k σ H _ S fun vs H1 S1 x1 r1 => ?_)
  match vs, r1 with
  | [v, w], r1 =>
    unfold Rs at r1
    obtain ⟨rv, r1⟩ := r1
    unfold Rs at r1
    exact ⟨v, w, rfl, k _ H1 ((S1.set i rv).set j r1.1) (ext_on x l x1) (lo_of l hab.dm)⟩
/-- a, b = t, a tuple of two -/
theorem at_unp2 {px py pt : Pos} {m : Str} {kt} (i j : Nat) (ha : EE X M e cs ex (.tup [x, y]) cs1) (k : At X M ((e.set i (some x)).set j (some y)) cs1 fr (wSs X rest D0)) (hN : X.N.Nodup) (hi : X.N[i]? = some n := by rfl) (hj : X.N[j]? = some m := by rfl)
    (hx : Loc X.env.scope n := by first | exact .inl rfl | exact .inr rfl) (hx2 : Loc X.env.scope m := by first | exact .inl rfl | exact .inr rfl) (hf : X.fn n = true ∨ X.env.scope.names.lookup n = some .local := by first | exact .inl rfl | exact .inr rfl) (hf2 : X.fn m = true ∨ X.env.scope.names.lookup m = some .local := by first | exact .inl rfl | exact .inr rfl) (hc : X.calm = true := by rfl)
    (hs : swapsWithSole [.Tuple [.Name n px, .Name m py] kt pt] ex pos.line X.env = pure false := by rfl) (hw : swappedStores [.Tuple [.Name n px, .Name m py] kt pt] ex X.env = pure none := by rfl)
    (h0 : (assignEach [.Tuple [.Name n px, .Name m py] kt pt] X.env).map (·.2) = [assign (.Tuple [.Name n px, .Name m py] kt pt) X.env] := by rfl)
    (h1 : ∀ E : Env, (assignEach [.Name n px, .Name m py] E).length = 2 := by intro _; rfl) (h2 : ∀ E : Env, (assignEach [.Name n px, .Name m py] E).findIdx? (·.1) = none := by intro _; rfl)
    (h3 : ∀ E : Env, (assignEach [.Name n px, .Name m py] E).map (·.2) = assign (.Name n px) E :: (assignEach [.Name m py] E).map (·.2) := by intro _; rfl) (h4 : ∀ E : Env, (assignEach [.Name m py] E).map (·.2) = assign (.Name m py) E :: (assignEach [] E).map (·.2) := by intro _; rfl) :
    At X M e cs fr (wSs X (.Assign [.Tuple [.Name n px, .Name m py] kt pt] ex pos :: rest) D0) := fun σ H S x l =>
  wss_of (pss_cons (ps_asg pe_w (pg_tup hc (pgs_cons (pg_name hN hi hx hf) (pgs_cons (pg_name hN hj hx2 hf2) pgs_nil (h4 _)) (h3 _)) (h1 _) (h2 _)) hs hw h0) pss_w) (ha.k σ H _ S fun v H1 S1 x1 r1 => by
    obtain ⟨ad, xs, rfl, hq, rr⟩ := r_tup r1
    have hl := rr.length
    match xs, rr, hl with
    | [u, w], rr, _ =>
      unfold Rs at rr
      obtain ⟨ru, rr⟩ := rr
      unfold Rs at rr
      exact ⟨ad, [u, w], rfl, hq, rfl, u, [w], rfl, w, [], rfl, rfl, k _ H1 ((S1.set i ru).set j rr.1) (ext_on x l x1) (lo_of l ha.dm)⟩)
theorem at_expr (ha : EE X M e cs ex d cs1) (k : At X M e cs1 fr (wSs X rest D0)) (hs : swapsWith ex none pos.line X.env = pure false := by rfl) : At X M e cs fr (wSs X (.Expr ex pos :: rest) D0) := fun σ H S x l =>
  wss_of (pss_cons (ps_expr pe_w hs) pss_w) (ha.k σ H _ S fun v H1 S1 x1 r1 => k _ H1 S1 (ext_on x l x1) (lo_of l ha.dm))
theorem at_ret (ha : EE X M e cs ex d cs1) (k : ∀ σ H v, Sit X.K X.mg M σ H e cs1 → Fr fr H → R X.K X.mg M H v d → D0.rt v H) : At X M e cs fr (wSs X (.Return (some ex) pos :: rest) D0) := fun σ H S x l =>
  wss_of (pss_cons (ps_ret pe_w) pss_w) (ha.k σ H _ S fun v H1 S1 x1 r1 => k σ H1 v S1 (ext_on x l x1) r1)
theorem at_if {b0 : Bool} (hc : ET X M e cs c b0 cs1) (ht : b0 = true → At X M e cs1 fr (wSs X st { D0 with nx := wSs X rest D0 })) (hf : b0 = false → At X M e cs1 fr (wSs X st2 { D0 with nx := wSs X rest D0 })) : At X M e cs fr (wSs X (.If c st st2 pos :: rest) D0) := fun σ H S x l =>
  wss_of (pss_cons (ps_if pt_w pss_w pss_w) pss_w) (hc.k σ H _ S fun H1 S1 x1 => by
    cases b0 with
    | true => rw [if_pos rfl]; exact ht rfl _ H1 S1 (ext_on x l x1) (lo_of l hc.dm)
    | false => rw [if_neg (by simp)]; exact hf rfl _ H1 S1 (ext_on x l x1) (lo_of l hc.dm))
theorem at_pass (k : At X M e cs fr (wSs X rest D0)) : At X M e cs fr (wSs X (.Pass pos :: rest) D0) := fun σ H S x l => wss_of (pss_cons ps_pass pss_w) (k σ H S x l)
theorem at_break (k : At X M e cs fr D0.bk) : At X M e cs fr (wSs X (.Break pos :: rest) D0) := fun σ H S x l => wss_of (pss_cons ps_break pss_w) (k σ H S x l)
theorem at_cont (k : At X M e cs fr D0.ct) : At X M e cs fr (wSs X (.Continue pos :: rest) D0) := fun σ H S x l => wss_of (pss_cons ps_continue pss_w) (k σ H S x l)
/-- what holds between two turns: for some ghost value -/
def Inv' (X : Cx) (M : Addr → Prop) (fr : Frs) {α : Type} (P : α → Prop) (E : α → DE) (C : α → Cs) : L2.St → Hp → Prop := fun σ H => ∃ g, P g ∧ Sit X.K X.mg M σ H (E g) (C g) ∧ Fr fr H
/-- the target of a loop -/
structure LTg (X : Cx) (tg : Expr) (ef : DE → D → DE) (P : D → Prop) : Prop where
  k : ∃ g, PG X tg g ∧ ∀ (M : Addr → Prop) (e : DE) (cs : Cs) (σ : L2.St) (H : Hp) (x : V) (d : D) (Q : L2.St → Hp → Prop), P d → Sit X.K X.mg M σ H e cs → R X.K X.mg M H x d → (∀ σ', Sit X.K X.mg M σ' H (ef e d) cs → Q σ' H) → g x σ H Q
theorem ltg_name (j : Nat) (hN : X.N.Nodup) (hj : X.N[j]? = some n := by rfl) (hx : Loc X.env.scope n := by first | exact .inl rfl | exact .inr rfl) (hf : X.fn n = true ∨ X.env.scope.names.lookup n = some .local := by first | exact .inl rfl | exact .inr rfl) :
    LTg X (.Name n p) (fun e d => e.set j (some d)) (fun _ => True) := ⟨gName j, pg_name hN hj hx hf, fun M e cs σ H x d Q _ S r k => k _ (S.set j r)⟩
theorem ltg_pair {px py pt : Pos} {m : Str} {kt} (i j : Nat) (hN : X.N.Nodup) (hi : X.N[i]? = some n := by rfl) (hj : X.N[j]? = some m := by rfl)
    (hx : Loc X.env.scope n := by first | exact .inl rfl | exact .inr rfl) (hx2 : Loc X.env.scope m := by first | exact .inl rfl | exact .inr rfl) (hf : X.fn n = true ∨ X.env.scope.names.lookup n = some .local := by first | exact .inl rfl | exact .inr rfl) (hf2 : X.fn m = true ∨ X.env.scope.names.lookup m = some .local := by first | exact .inl rfl | exact .inr rfl) (hc : X.calm = true := by rfl)
    (h1 : ∀ E : Env, (assignEach [.Name n px, .Name m py] E).length = 2 := by intro _; rfl) (h2 : ∀ E : Env, (assignEach [.Name n px, .Name m py] E).findIdx? (·.1) = none := by intro _; rfl)
    (h3 : ∀ E : Env, (assignEach [.Name n px, .Name m py] E).map (·.2) = assign (.Name n px) E :: (assignEach [.Name m py] E).map (·.2) := by intro _; rfl) (h4 : ∀ E : Env, (assignEach [.Name m py] E).map (·.2) = assign (.Name m py) E :: (assignEach [] E).map (·.2) := by intro _; rfl) :
    LTg X (.Tuple [.Name n px, .Name m py] kt pt) (fun e d => match d with | .tup [x, y] => (e.set i (some x)).set j (some y) | _ => e) (fun d => ∃ x y, d = .tup [x, y]) :=
  ⟨_, pg_tup hc (pgs_cons (pg_name hN hi hx hf) (pgs_cons (pg_name hN hj hx2 hf2) pgs_nil (h4 _)) (h3 _)) (h1 _) (h2 _), fun M e cs σ H v d Q pd S r k => by
    obtain ⟨x, y, rfl⟩ := pd
    obtain ⟨ad, xs, rfl, hq, rr⟩ := r_tup r
    have hl := rr.length
    match xs, rr, hl with
    | [u, w], rr, _ =>
      unfold Rs at rr
      obtain ⟨ru, rr⟩ := rr
      unfold Rs at rr
      exact ⟨ad, [u, w], rfl, hq, rfl, u, [w], rfl, w, [], rfl, rfl, k _ ((S.set i ru).set j rr.1)⟩⟩
/-- for tg in iter -/
theorem at_for {tg iter : Expr} {body : List Stmt} {ef : DE → D → DE} {Pd : D → Prop} {α : Nat → Type} (P : (i : Nat) → α i → Prop) (E : (i : Nat) → α i → DE) (C : (i : Nat) → α i → Cs) (hi : EI X M e cs tg iter ds cs1) (ht : LTg X tg ef Pd) (hP : ∀ d ∈ ds, Pd d) (g0 : α 0) (p0 : P 0 g0) (e0 : E 0 g0 = e) (c0 : C 0 g0 = cs1)
    (hdm : ∀ i g, P i g → dom (C i g) = dom cs1)
    (turn : ∀ (i : Nat) (d : D) (g : α i) (H1 : Hp), ds[i]? = some d → P i g → At X M (ef (E i g) d) (C i g) ((dom cs1, H1) :: fr) (wSs X body { D0 with nx := Inv' X M ((dom cs1, H1) :: fr) (P (i + 1)) (E (i + 1)) (C (i + 1)), ct := Inv' X M ((dom cs1, H1) :: fr) (P (i + 1)) (E (i + 1)) (C (i + 1)), bk := wSs X rest D0 }))
    (k : ∀ g, P ds.length g → At X M (E ds.length g) (C ds.length g) fr (wSs X rest D0)) (hc : X.calm = true := by rfl) (hp : PassesOwn (model X.prog X.w) X.A X.env X.xe := by exact PassesOwn.never) (hs : ∀ x, foldedSetIterable iter X.env x = pure x := by intro _; rfl) :
    At X M e cs fr (wSs X (.For tg iter body [] pos :: rest) D0) := fun σ H S x l => by
  obtain ⟨dmI, wi, hpi, ki⟩ := hi
  obtain ⟨g, hg, hgk⟩ := ht.k
  refine wss_of (pss_cons (ps_for hp hc hpi hg pss_w hs) pss_w) (ki σ H _ S fun J H1 S1 x1 wk => ?_)
  have lx : Lo fr cs1 := lo_of l dmI
  have kx : Fr fr H1 := ext_on x l x1
  have ly : Lo ((dom cs1, H1) :: fr) cs1 := fun f hf a ha => by
    rcases List.mem_cons.mp hf with rfl | hf
    · exact .inl ha
    · exact lx f hf a ha
  refine ⟨fun i m σ H => m = ds.length - i ∧ i ≤ ds.length ∧ Inv' X M ((dom cs1, H1) :: fr) (P i) (E i) (C i) σ H, ⟨ds.length, by simp, Nat.zero_le _, g0, p0, by rw [e0, c0]; exact S1, fun f hf => ?_⟩, ?_⟩
  · rcases List.mem_cons.mp hf with rfl | hf
    · exact Ext.refl _ _
    · exact kx f hf
  rintro i m σ2 H2 ⟨rfl, hil, gi, pg, S2, x2⟩
  have x3 : Ext (dom cs1) H1 H2 := x2 _ List.mem_cons_self
  obtain ⟨w1, w2⟩ := wk M H2 (fun a o nm h => ⟨nm, S1.keeps x3 a o nm h⟩) S2.mt
  have ly2 := lo_of ly (hdm _ _ pg)
  by_cases hlt : i < ds.length
  · obtain ⟨d, hd⟩ : ∃ d, ds[i]? = some d := ⟨_, List.getElem?_eq_getElem hlt⟩
    obtain ⟨q1, q2⟩ := w1 i d hd
    refine .inr ⟨q1, Inv' X M ((dom cs1, H1) :: fr) (P (i + 1)) (E (i + 1)) (C (i + 1)), fun σ' H' p' => ⟨ds.length - (i + 1), by omega, rfl, hlt, p'⟩, fun x H3 y => ?_⟩
    obtain ⟨x4, r4⟩ := q2 x H3 y
    have S3 := S2.ex x4
    exact hgk M _ _ σ2 H3 x d _ (hP d (List.mem_of_getElem? hd)) S3 r4 fun σ' S4 => turn i d gi H1 hd pg σ' H3 S4 (ext_on x2 ly2 (x4.mono (by simp))) ly2
  · have e9 : i = ds.length := by omega
    subst e9
    exact .inl ⟨w2, k gi pg σ2 H2 S2 (fun f hf => x2 f (List.mem_cons_of_mem _ hf)) (lo_of lx (hdm _ _ pg))⟩
theorem at_weak {f : List Addr × Hp} {P : L2.St → Hp → Prop} (h : At X M e cs fr P) : At X M e cs (f :: fr) P := fun σ H S x l => h σ H S (fun q hq => x q (List.mem_cons_of_mem _ hq)) fun q hq => l q (List.mem_cons_of_mem _ hq)
theorem at_inv {α : Type} {P : α → Prop} {E : α → DE} {C : α → Cs} (g : α) (pg : P g) (he : E g = e) (hc : C g = cs) : At X M e cs fr (Inv' X M fr P E C) := fun σ H S x l => ⟨g, pg, by rw [he, hc]; exact S, x⟩
/-- o.f = value, o an instance that may change -/
theorem at_fld {ad C : Addr} {cn m : Str} {ns : List Str} {o : Expr} {cs' : Cs} (hv : EE X M e cs ex d cs1) (ho : EE X M e cs1 a (.ref ad) cs1) (hm : X.mg cn = some (.ref C)) (hcl : Cls X.K C) (hn : NoAttr X.K C m) (hlen : ns.length < 900) (hin : (ad, MC.obj cn ns ds) ∈ cs1)
    {ns' : List Str} {ds' : List D} (hu : Upd1 ad (.obj cn ns ds) (.obj cn ns' ds') cs1 cs2) (hput : ∀ (x : V) (xs : List V), xs.length = ns.length → ∃ xs', putF m x (ns.zip xs) = ns'.zip xs' ∧ ns'.length = xs'.length ∧ ∀ (H : Hp), R X.K X.mg M H x d → Rs X.K X.mg M H xs ds → Rs X.K X.mg M H xs' ds')
    (k : At X M e cs2 fr (wSs X rest D0)) (hs : swapsWith ex (some (.Attribute a m pos')) pos.line X.env = pure false := by rfl) : At X M e cs fr (wSs X (.Assign [.Attribute a m pos'] ex pos :: rest) D0) := fun σ H S x l =>
  wss_of (pss_cons (ps_fld pe_w pe_w hs) pss_w) (hv.k σ H _ S fun v H1 S1 x1 r1 => ho.k σ H1 _ S1 fun w H2 S2 x2 r2 => by
    simp [R] at r2
    subst r2
    obtain ⟨mm, C', dx, xs, hm', h3, hl, rs⟩ := S2.cel _ hin
    rw [hm] at hm'; cases hm'
    have r1' := S1.r x2 r1
    refine ⟨ad, C, dx, ns.zip xs, rfl, h3, hcl, hn, by rw [List.length_zip]; omega, ?_⟩
    obtain ⟨xs', e1, e2, rr⟩ := hput v xs hl.symm
    rw [e1]
    have hnm : ∀ b o, ¬ M b → H2 b = some o → upd H2 ad (.ins C dx (ns'.zip xs')) b = some o := fun b o nb h => by rw [upd_ne (fun z => nb (by rw [z]; exact mm))]; exact h
    refine k σ _ ⟨fun b mb => ?_, S2.len, fun i d' q => ?_, fun q hq => ?_, ?_⟩ ?_ (lo_of l (hu.dm.trans hv.dm))
    · by_cases h : b = ad
      · subst h; rw [upd_same]; simp
      · rw [upd_ne h]; exact S2.mt b mb
    · obtain ⟨u, e3, r⟩ := S2.env i d' q
      exact ⟨u, e3, R.ext hnm (fun _ n _ => n) _ r⟩
    · rcases hu.of S2.nd q hq with rfl | ⟨q1, q2⟩
      · exact ⟨mm, C, dx, xs', hm, upd_same, e2, Rs.ext hnm (fun _ n _ => n) _ (rr H2 r1' rs)⟩
      · exact ⟨(S2.cel q q1).1, (S2.cel q q1).2.ext hnm (fun _ n _ => n) fun o h => by rw [upd_ne q2]; exact h⟩
    · rw [show cs2.map (·.1) = cs1.map (·.1) from hu.dm]; exact S2.nd
    · have l1 : Lo fr cs1 := lo_of l hv.dm
      have y := ext_on (ext_on x l x1) l1 x2
      refine ext_on y l1 fun b o h n => ?_
      rw [upd_ne (fun z => n (by rw [z]; exact List.mem_map_of_mem (f := (·.1)) hin))]; exact h)
end

/-! ### a def keeps its promise -/
section
variable {P : Program} {w : World} {K : PySem.W.Frag} {mg : Str → Option Value} {base : Heap} {ι : Type} {pre : ι → Prop} {args : ι → List D} {cs cs' : ι → Cs} {res : ι → D} {x qual n : Str} {st : Stmt} {f : Addr} {fd : FuncData} {N ps : List Str} {k : Nat}
theorem sit_start {M : Addr → Prop} {H : Hp} {vs : List V} {ds : List D} {c : Cs} (mt : ∀ a, M a → H a ≠ none) (r : Rs K mg M H vs ds) (hc : ∀ p ∈ c, M p.1 ∧ Cell K mg M H p.1 p.2) (nd : (dom c).Nodup) : Sit K mg M (L2.start N vs) H (ds.map some ++ List.replicate (N.length - ds.length) none) c where
  mt := mt
  len := by unfold L2.start; simp [r.length]
  env := fun i d q => by
    have hi : i < ds.length := by
      by_cases h : i < ds.length
      · exact h
      · rw [List.getElem?_append_right (by simp; omega)] at q
        rw [List.getElem?_replicate] at q
        split at q <;> cases q
    rw [List.getElem?_append_left (by simpa using hi)] at q
    have q' : ds[i]? = some d := by
      rw [List.getElem?_map] at q
      cases hq : ds[i]? with
      | none => rw [hq] at q; cases q
      | some d' => rw [hq] at q; exact Option.some.inj q
    obtain ⟨v, hv, rv⟩ := r.get q'
    refine ⟨v, ?_, rv⟩
    unfold L2.start
    rw [List.getElem?_append_left (by simp [r.length]; exact hi)]
    simp [hv]
  cel := hc
  nd := nd
/-- what a body is shown to do -/
def Body (P : Program) (w : World) (K : PySem.W.Frag) (mg : Str → Option Value) (base : Heap) (qual : Str) (st : Stmt) (f : Addr) (N : List Str) (np : Nat) (k : Nat) {ι : Type} (pre : ι → Prop) (args : ι → List D) (cs : ι → Cs) (res : ι → D) (cs' : ι → Cs) : Prop :=
  ∀ (cdv : Value) (A : Around) (outer : List Env) (s : Shared) (H0 : Hp) (E : XK) (i : ι) (M : Addr → Prop) (Q : VK), pre i → Room k (A.deeper (PyProof.Rows.envOfC qual (defScope st) s.heap.objs.size f cdv)) →
    (∀ v H', (∀ a, M a → H' a ≠ none) → Ext (dom (cs i)) H0 H' → (∀ p ∈ cs' i, M p.1 ∧ Cell K mg M H' p.1 p.2) → R K mg M H' v (res i) → Q v H') →
    At (cxOf CX0 P w K mg base N qual (defScope st) f cdv A outer s H0 E).nox M ((args i).map some ++ List.replicate (N.length - (args i).length) none) (cs i) [(dom (cs i), H0)]
      (wSs (cxOf CX0 P w K mg base N qual (defScope st) f cdv A outer s H0 E).nox (defBody st) { nx := fun _ H' => Q .non H', rt := Q })
theorem fnr_of (F : Fun K x qual st f fd) (S : FnScope N ps (defScope st)) (hb : Binds K fd ps []) (hl : ∀ i, (args i).length = ps.length) (body : Body P w K mg base qual st f N ps.length k pre args cs res cs') : FnR P w K mg base CX0 (k + 1) f (fnSp K mg pre args cs res cs') := by
  have h : FnOk P w K mg base CX0 (k + 1) f fd ps (fnSp K mg pre args cs res cs') := F.ok S (fun vs H Q E h => by
    obtain ⟨M, i, _, _, r, _⟩ := h
    rw [r.length, hl]) fun cdv A outer s H vs Q E hr h => by
    obtain ⟨M, i, hp, mt, r, hc, nd, kq⟩ := h
    refine ⟨_, pss_w, ?_⟩
    refine body cdv A outer s H E i M Q hp hr kq _ _ (sit_start mt r hc nd) (fun q hq => ?_) fun q hq a ha => ?_
    · rcases List.mem_singleton.mp hq with rfl
      exact Ext.refl _ _
    · rcases List.mem_singleton.mp hq with rfl
      exact .inl ha
  have h2 := h.raw (ds := []) (dvs := []) hb .nil
  simpa using h2
theorem dfn_of (F : Fun K x qual st f fd) (hm : mg n = some (.ref f)) (S : FnScope N ps (defScope st)) (hb : Binds K fd ps []) (hl : ∀ i, (args i).length = ps.length) (body : Body P w K mg base qual st f N ps.length k pre args cs res cs') : Dfn P w K mg base n (k + 1) (fnSp K mg pre args cs res cs') :=
  ⟨f, hm, F.kp, fnr_of F S hb hl body⟩
/-- the end of a body -/
theorem at_done {X : Cx} {M M0 : Addr → Prop} {e : DE} {c0 c1 c2 : Cs} {H0 : Hp} {ex : Expr} {d : D} {pos : Pos} {rest : List Stmt} {D0 : Ends} {fr : Frs} {A0 : List Addr} {d' : D} (ha : EE X M e c0 ex d c1) (hfr : (A0, H0) ∈ fr) (hM : ∀ a, M0 a → M a) (hc : ∀ p ∈ c2, p ∈ c1) (hMc : ∀ p ∈ c2, M0 p.1) (hd : d = d')
    (kq : ∀ v H', (∀ a, M0 a → H' a ≠ none) → Ext A0 H0 H' → (∀ p ∈ c2, M0 p.1 ∧ Cell X.K X.mg M0 H' p.1 p.2) → R X.K X.mg M0 H' v d' → D0.rt v H') : At X M e c0 fr (wSs X (.Return (some ex) pos :: rest) D0) :=
  at_ret ha fun σ H v S x r => kq v H (fun a m => S.mt a (hM a m)) (x _ hfr) (fun p hp => ⟨hMc p hp, (S.cel p (hc p hp)).2.ext (fun a o _ h => h) (fun a n _ z => n (hM a z)) fun o h => h⟩) (hd ▸ R.ext (fun a o _ h => h) (fun a n _ z => n (hM a z)) _ r)
/-- the end of a body without things of its own -/
theorem at_end {X : Cx} {M : Addr → Prop} {e : DE} {c0 c1 : Cs} {H0 : Hp} {ex : Expr} {d : D} {pos : Pos} {rest : List Stmt} {D0 : Ends} {fr : Frs} {A0 : List Addr} {d' : D} (ha : EE X M e c0 ex d c1) (hd : d = d') (hfr : (A0, H0) ∈ fr)
    (kq : ∀ v H', (∀ a, M a → H' a ≠ none) → Ext A0 H0 H' → (∀ p ∈ c1, M p.1 ∧ Cell X.K X.mg M H' p.1 p.2) → R X.K X.mg M H' v d' → D0.rt v H') : At X M e c0 fr (wSs X (.Return (some ex) pos :: rest) D0) :=
  at_ret ha fun σ H v S x r => kq v H S.mt (x _ hfr) S.cel (hd ▸ r)
end
end Od

set_option Elab.async false
set_option linter.all false
set_option maxRecDepth 100000
set_option maxHeartbeats 4000000
namespace Od
open PySem L2

/-! ### operations on data -/
section
variable {X : Cx} {M : Addr → Prop} {H : Hp} {ds es : List D} {d x y z : D}
theorem bd_add {i j : Int} : BinD X .Add (.int i) (.int j) (.int (i + j)) := ⟨_, op_add, fun M H v u Q mt hv hu k => by
  simp only [R] at hv hu; exact ⟨i, j, hv, hu, k _ H (Ext.refl _ _) (by simp [R])⟩⟩
theorem bd_sub {i j : Int} : BinD X .Sub (.int i) (.int j) (.int (i - j)) := ⟨_, op_sub, fun M H v u Q mt hv hu k => by
  simp only [R] at hv hu; exact ⟨i, j, hv, hu, k _ H (Ext.refl _ _) (by simp [R])⟩⟩
theorem bd_mulL {i j : Int} (h : -(2 ^ 64) < i ∧ i < 2 ^ 64) : BinD X .Mult (.int i) (.int j) (.int (i * j)) := ⟨_, op_mul, fun M H v u Q mt hv hu k => by
  simp only [R] at hv hu; exact ⟨i, j, hv, hu, .inl h, k _ H (Ext.refl _ _) (by simp [R])⟩⟩
theorem bd_mulR {i j : Int} (h : -(2 ^ 64) < j ∧ j < 2 ^ 64) : BinD X .Mult (.int i) (.int j) (.int (i * j)) := ⟨_, op_mul, fun M H v u Q mt hv hu k => by
  simp only [R] at hv hu; exact ⟨i, j, hv, hu, .inr h, k _ H (Ext.refl _ _) (by simp [R])⟩⟩
theorem bd_mod {i j : Int} (h : 0 < j) : BinD X .Mod (.int i) (.int j) (.int (i % j)) := ⟨_, op_mod, fun M H v u Q mt hv hu k => by
  simp only [R] at hv hu; exact ⟨i, j, hv, hu, h, k _ H (Ext.refl _ _) (by simp [R])⟩⟩
theorem bd_div {i j : Int} (h : 0 < j ∧ j.natAbs.log2 < 9000) : BinD X .FloorDiv (.int i) (.int j) (.int (i / j)) := ⟨_, op_fdivW, fun M H v u Q mt hv hu k => by
  simp only [R] at hv hu; exact ⟨i, j, hv, hu, h, k _ H (Ext.refl _ _) (by simp [R])⟩⟩
theorem bd_pow {i j : Int} (h : 0 ≤ j ∧ j ≤ 1000000 ∧ i.natAbs < 2 ^ 64) : BinD X .Pow (.int i) (.int j) (.int (i ^ j.toNat)) := ⟨_, op_pow, fun M H v u Q mt hv hu k => by
  simp only [R] at hv hu; exact ⟨i, j, hv, hu, h, k _ H (Ext.refl _ _) (by simp [R])⟩⟩
theorem bd_addS {s t : Str} (h : s.length + t.length ≤ sizeLine) : BinD X .Add (.str s) (.str t) (.str (s ++ t)) := ⟨_, op_add_str, fun M H v u Q mt hv hu k => by
  simp only [R] at hv hu; exact ⟨s, t, hv, hu, h, k _ H (Ext.refl _ _) (by simp [R])⟩⟩
theorem bd_addL (h : ds.length + es.length ≤ 100000) : BinD X .Add (.lst ds) (.lst es) (.lst (ds ++ es)) := ⟨_, op_cat, fun M H v u Q mt hv hu k => by
  obtain ⟨a, xs, rfl, _, ha, ra⟩ := r_lst hv
  obtain ⟨b, ys, rfl, _, hb, rb⟩ := r_lst hu
  exact ⟨a, b, xs, ys, rfl, rfl, ha, hb, by rw [ra.length, rb.length]; exact Nat.le_trans h (by decide), fun p hp => k _ _ (Ext.new hp) (r_newl mt hp (ra.append rb))⟩⟩
theorem bd_addT (h : ds.length + es.length ≤ 100000) : BinD X .Add (.tup ds) (.tup es) (.tup (ds ++ es)) := ⟨_, op_catA, fun M H v u Q mt hv hu k => by
  obtain ⟨a, xs, rfl, ha, ra⟩ := r_tup hv
  obtain ⟨b, ys, rfl, hb, rb⟩ := r_tup hu
  refine ⟨a, b, xs, ys, rfl, rfl, ha, hb, by rw [ra.length, rb.length]; exact Nat.le_trans h (by decide), fun e => ?_, fun e e' => ?_, fun e e' p hp => k _ _ (Ext.new hp) (r_newt mt hp (ra.append rb))⟩
  · subst e
    have : ds = [] := List.eq_nil_of_length_eq_zero (by rw [← ra.length]; rfl)
    subst this
    exact k _ H (Ext.refl _ _) hu
  · subst e'
    have : es = [] := List.eq_nil_of_length_eq_zero (by rw [← rb.length]; rfl)
    subst this
    rw [List.append_nil] at k
    exact k _ H (Ext.refl _ _) hv⟩
theorem Rs.rep {K : PySem.W.Frag} {mg : Str → Option Value} {xs : List V} (r : Rs K mg M H xs ds) : ∀ n : Nat, Rs K mg M H (List.replicate n xs).flatten (List.replicate n ds).flatten
  | 0 => Rs.nil
  | n + 1 => by
    rw [List.replicate_succ, List.replicate_succ, List.flatten_cons, List.flatten_cons]
    exact r.append (Rs.rep r n)
theorem bd_rep {i : Int} (h : ds.length * i.toNat ≤ 100000) (hi : -(2 ^ 63) ≤ i ∧ i < 2 ^ 63) : BinD X .Mult (.lst ds) (.int i) (.lst (List.replicate i.toNat ds).flatten) := ⟨_, op_rep, fun M H v u Q mt hv hu k => by
  obtain ⟨a, xs, rfl, _, ha, ra⟩ := r_lst hv
  simp only [R] at hu
  exact ⟨a, i, xs, rfl, hu, ha, hi.1, hi.2, by rw [ra.length]; exact Nat.le_trans h (by decide), fun p hp => k _ _ (Ext.new hp) (r_newl mt hp (ra.rep _))⟩⟩
theorem ud_neg {i : Int} : UnD X .USub (.int i) (.int (-i)) := ⟨_, un_neg, fun M H v Q mt hv k => by
  simp only [R] at hv; exact ⟨i, hv, k _ H (Ext.refl _ _) (by simp [R])⟩⟩

/-! comparisons -/
theorem cd_lt {i j : Int} : CmpD X .Lt (.int i) (.int j) (decide (i < j)) := ⟨_, op_lt, fun M H v u Q mt hv hu k => by
  simp only [R] at hv hu; exact ⟨i, j, hv, hu, k _ H (Ext.refl _ _) (by simp [R])⟩⟩
theorem cd_le {i j : Int} : CmpD X .LtE (.int i) (.int j) (decide (i ≤ j)) := ⟨_, op_le, fun M H v u Q mt hv hu k => by
  simp only [R] at hv hu; exact ⟨i, j, hv, hu, k _ H (Ext.refl _ _) (by simp [R])⟩⟩
theorem cd_gt {i j : Int} : CmpD X .Gt (.int i) (.int j) (decide (j < i)) := ⟨_, op_gt, fun M H v u Q mt hv hu k => by
  simp only [R] at hv hu; exact ⟨i, j, hv, hu, k _ H (Ext.refl _ _) (by simp [R])⟩⟩
theorem cd_ge {i j : Int} : CmpD X .GtE (.int i) (.int j) (decide (j ≤ i)) := ⟨_, op_ge, fun M H v u Q mt hv hu k => by
  simp only [R] at hv hu; exact ⟨i, j, hv, hu, k _ H (Ext.refl _ _) (by simp [R])⟩⟩
theorem cd_ltS {s t : Str} : CmpD X .Lt (.str s) (.str t) (decide (s.cps.toList < t.cps.toList)) := ⟨_, op_lt_str, fun M H v u Q mt hv hu k => by
  simp only [R] at hv hu; exact ⟨s, t, hv, hu, k _ H (Ext.refl _ _) (by simp [R])⟩⟩
/-- plain values -/
def flat : D → Option V
  | .non => some .non
  | .bl b => some (.bl b)
  | .int i => some (.int i)
  | .str s => some (.str s)
  | _ => none
def flats : List D → Option (List V)
  | [] => some []
  | d :: ds => (flat d).bind fun v => (flats ds).map (v :: ·)
theorem R.flat {K : PySem.W.Frag} {mg : Str → Option Value} {v w : V} : ∀ {d : D}, Od.flat d = some w → R K mg M H v d → v = w
  | .non, h, r => by simp only [R] at r; simp [Od.flat] at h; rw [r, ← h]
  | .bl _, h, r => by simp only [R] at r; simp [Od.flat] at h; rw [r, ← h]
  | .int _, h, r => by simp only [R] at r; simp [Od.flat] at h; rw [r, ← h]
  | .str _, h, r => by simp only [R] at r; simp [Od.flat] at h; rw [r, ← h]
  | .ref _, h, r => by simp [Od.flat] at h
  | .ty _, h, r => by simp [Od.flat] at h
  | .lst _, h, r => by simp [Od.flat] at h
  | .tup _, h, r => by simp [Od.flat] at h
  | .obj _ _ _, h, r => by simp [Od.flat] at h
  | .dic _ _, h, r => by simp [Od.flat] at h
  | .scr _, h, r => by simp [Od.flat] at h
theorem cd_eq {v w : V} (h1 : flat x = some v) (h2 : flat y = some w) (h : scal v w = true) : CmpD X .Eq x y (decide (v = w)) := ⟨_, op_eq, fun M H v' u' Q mt hv hu k => by
  obtain rfl := hv.flat h1
  obtain rfl := hu.flat h2
  exact ⟨h, k _ H (Ext.refl _ _) (by simp [R])⟩⟩
theorem cd_ne {v w : V} (h1 : flat x = some v) (h2 : flat y = some w) (h : scal v w = true) : CmpD X .NotEq x y (!decide (v = w)) := ⟨_, op_ne, fun M H v' u' Q mt hv hu k => by
  obtain rfl := hv.flat h1
  obtain rfl := hu.flat h2
  exact ⟨h, k _ H (Ext.refl _ _) (by simp [R])⟩⟩
theorem CmpD.eq {op : CmpOp} {b c : Bool} (h : CmpD X op x y b) (e : b = c) : CmpD X op x y c := e ▸ h
theorem cd_eqI {i j : Int} : CmpD X .Eq (.int i) (.int j) (decide (i = j)) := (cd_eq rfl rfl rfl).eq (by simp)
theorem cd_eqS {s t : Str} : CmpD X .Eq (.str s) (.str t) (decide (s = t)) := (cd_eq rfl rfl rfl).eq (by simp)
theorem cd_eqB {s t : Bool} : CmpD X .Eq (.bl s) (.bl t) (s == t) := (cd_eq rfl rfl rfl).eq (by cases s <;> cases t <;> rfl)
theorem cd_neI {i j : Int} : CmpD X .NotEq (.int i) (.int j) (!decide (i = j)) := (cd_ne rfl rfl rfl).eq (by simp)
theorem cd_neS {s t : Str} : CmpD X .NotEq (.str s) (.str t) (!decide (s = t)) := (cd_ne rfl rfl rfl).eq (by simp)
theorem cd_neB {s t : Bool} : CmpD X .NotEq (.bl s) (.bl t) (s != t) := (cd_ne rfl rfl rfl).eq (by cases s <;> cases t <;> rfl)
mutual
/-- nested plain data -/
def toPy : D → Option PyData
  | .non => some .none
  | .bl b => some (.bool b)
  | .int i => some (.int i)
  | .str s => some (.str s)
  | .lst ds => (toPys ds).map .list
  | .tup ds => (toPys ds).map .tuple
  | _ => none
def toPys : List D → Option (List PyData)
  | [] => some []
  | d :: ds => (toPy d).bind fun p => (toPys ds).map (p :: ·)
end
mutual
theorem dp_of {K : PySem.W.Frag} {mg : Str → Option Value} : ∀ {d : D} {v : V} {p : PyData}, toPy d = some p → R K mg M H v d → Dp K H v p
  | .non, v, p, h, r => by simp only [R] at r; simp only [toPy, Option.some.injEq] at h; subst r h; exact .non
  | .bl _, v, p, h, r => by simp only [R] at r; simp only [toPy, Option.some.injEq] at h; subst r h; exact .bl _
  | .int _, v, p, h, r => by simp only [R] at r; simp only [toPy, Option.some.injEq] at h; subst r h; exact .int _
  | .str _, v, p, h, r => by simp only [R] at r; simp only [toPy, Option.some.injEq] at h; subst r h; exact .str _
  | .lst ds, v, p, h, r => by
    unfold R at r
    obtain ⟨a, xs, rfl, _, ha, rs⟩ := r
    unfold toPy at h
    cases q : toPys ds with
    | none => rw [q] at h; cases h
    | some ps =>
      rw [q] at h
      cases h
      exact .lst (.of ha) (dps_of q rs)
  | .tup ds, v, p, h, r => by
    unfold R at r
    obtain ⟨a, xs, rfl, ha, rs⟩ := r
    unfold toPy at h
    cases q : toPys ds with
    | none => rw [q] at h; cases h
    | some ps =>
      rw [q] at h
      cases h
      refine .tup ?_ (dps_of q rs)
      rcases ha with ⟨_, ha⟩ | ha
      · exact .inl (.inl ha)
      · exact .inr ha
  | .ref _, v, p, h, r => by simp [toPy] at h
  | .ty _, v, p, h, r => by simp [toPy] at h
  | .obj _ _ _, v, p, h, r => by simp [toPy] at h
  | .dic _ _, v, p, h, r => by simp [toPy] at h
  | .scr _, v, p, h, r => by simp [toPy] at h
theorem dps_of {K : PySem.W.Frag} {mg : Str → Option Value} : ∀ {ds : List D} {vs : List V} {ps : List PyData}, toPys ds = some ps → Rs K mg M H vs ds → DpAll K H vs ps
  | [], [], ps, h, r => by simp only [toPys, Option.some.injEq] at h; subst h; exact .nil
  | d :: ds, v :: vs, ps, h, r => by
    unfold Rs at r
    unfold toPys at h
    cases q1 : toPy d with
    | none => rw [q1] at h; cases h
    | some p1 =>
      rw [q1] at h
      cases q2 : toPys ds with
      | none => rw [q2] at h; cases h
      | some p2 =>
        rw [q2] at h
        cases h
        exact .cons (dp_of q1 r.1) (dps_of q2 r.2)
  | [], _ :: _, _, _, r => by unfold Rs at r; exact r.elim
  | _ :: _, [], _, _, r => by unfold Rs at r; exact r.elim
end
theorem cd_eqD {p q : PyData} (hu : X.A.units + 64 < cLine) (h1 : toPy x = some p) (h2 : toPy y = some q) (s1 : SeqAt.shaped p = true) (s2 : SeqAt.shaped q = true) : CmpD X .Eq x y (PyData.eqv p q) := ⟨_, op_eqD hu, fun M H v u Q mt hv hu k => ⟨p, q, dp_of h1 hv, dp_of h2 hu, s1, s2, k _ H (Ext.refl _ _) (by simp [R])⟩⟩
theorem cd_neD {p q : PyData} (hu : X.A.units + 64 < cLine) (h1 : toPy x = some p) (h2 : toPy y = some q) (s1 : SeqAt.shaped p = true) (s2 : SeqAt.shaped q = true) : CmpD X .NotEq x y (!PyData.eqv p q) := ⟨_, op_neD hu, fun M H v u Q mt hv hu k => ⟨p, q, dp_of h1 hv, dp_of h2 hu, s1, s2, k _ H (Ext.refl _ _) (by simp [R])⟩⟩
/-- one sign in a text -/
theorem cd_inC {c : Nat} {t : Str} : CmpD X .In (.str ⟨#[c]⟩) (.str t) (decide (c ∈ t.cps.toList)) := ⟨_, op_in_sign, fun M H v u Q mt hv hu k => by
  simp only [R] at hv hu; exact ⟨c, t, hv, hu, k _ H (Ext.refl _ _) (by simp [R])⟩⟩
theorem cd_notInC {c : Nat} {t : Str} : CmpD X .NotIn (.str ⟨#[c]⟩) (.str t) (!decide (c ∈ t.cps.toList)) := ⟨_, op_notIn_sign, fun M H v u Q mt hv hu k => by
  simp only [R] at hv hu; exact ⟨c, t, hv, hu, k _ H (Ext.refl _ _) (by simp [R])⟩⟩
theorem Rs.flats {K : PySem.W.Frag} {mg : Str → Option Value} : ∀ {ds : List D} {vs ws : List V}, flats ds = some ws → Rs K mg M H vs ds → vs = ws
  | [], [], ws, h, r => by simp [Od.flats] at h; rw [h]
  | d :: ds, v :: vs, ws, h, r => by
    unfold Rs at r
    unfold Od.flats at h
    cases q1 : Od.flat d with
    | none => rw [q1] at h; cases h
    | some w =>
      rw [q1] at h
      cases q2 : Od.flats ds with
      | none => rw [q2] at h; cases h
      | some w2 =>
        rw [q2] at h
        cases h
        rw [r.1.flat q1, Rs.flats q2 r.2]
  | [], _ :: _, _, _, r => by unfold Rs at r; exact r.elim
  | _ :: _, [], _, _, r => by unfold Rs at r; exact r.elim
/-- x in a list or tuple of plain things -/
theorem cd_inL {v : V} {ws : List V} (h1 : flat x = some v) (h2 : flats ds = some ws) (f1 : flatV v = true) (f2 : ws.all flatV = true) : CmpD X .In x (.lst ds) (inV v ws) := ⟨_, op_in_seq, fun M H v' u Q mt hv hu k => by
  obtain rfl := hv.flat h1
  obtain ⟨a, xs, rfl, _, ha, ra⟩ := r_lst hu
  obtain rfl := ra.flats h2
  exact ⟨a, xs, rfl, .inl (.of ha), f1, f2, k _ H (Ext.refl _ _) (by simp [R])⟩⟩
theorem cd_inT {v : V} {ws : List V} (h1 : flat x = some v) (h2 : flats ds = some ws) (f1 : flatV v = true) (f2 : ws.all flatV = true) : CmpD X .In x (.tup ds) (inV v ws) := ⟨_, op_in_seq, fun M H v' u Q mt hv hu k => by
  obtain rfl := hv.flat h1
  obtain ⟨a, xs, rfl, ha, ra⟩ := r_tup hu
  obtain rfl := ra.flats h2
  exact ⟨a, xs, rfl, .inr ha, f1, f2, k _ H (Ext.refl _ _) (by simp [R])⟩⟩
theorem eqV_str {s t : Str} : eqV (.str t) (.str s) = decide (s = t) := by
  show (t == s) = decide (s = t)
  by_cases h : s = t
  · subst h; simp
  · rw [decide_eq_false h]
    exact beq_eq_false_iff_ne.mpr fun q => h q.symm
/-- a text in a tuple of two, three texts -/
theorem cd_inT2 {s a b : Str} : CmpD X .In (.str s) (.tup [.str a, .str b]) (decide (s = a) || decide (s = b)) := (cd_inT rfl rfl rfl rfl).eq (by
  simp only [inV, List.any_cons, List.any_nil, eqV_str, Bool.or_false])
theorem cd_inT3 {s a b c : Str} : CmpD X .In (.str s) (.tup [.str a, .str b, .str c]) (decide (s = a) || (decide (s = b) || decide (s = c))) := (cd_inT rfl rfl rfl rfl).eq (by
  simp only [inV, List.any_cons, List.any_nil, eqV_str, Bool.or_false])

/-! subscripts, slices -/
theorem xd_lst {i : Int} {j : Nat} (hi : ixN ds.length i = some j) (hd : ds[j]? = some d) : IxD X (.lst ds) (.int i) d := ⟨_, ix_list, fun M H v u Q mt hv hu k => by
  obtain ⟨a, xs, rfl, _, ha, ra⟩ := r_lst hv
  simp only [R] at hu
  obtain ⟨w, hw, rw'⟩ := ra.get hd
  exact ⟨a, xs, i, w, rfl, hu, .of ha, by unfold atI; rw [ra.length, hi]; exact hw, k _ H (Ext.refl _ _) rw'⟩⟩
theorem xd_tup {i : Int} {j : Nat} (hi : ixN ds.length i = some j) (hd : ds[j]? = some d) : IxD X (.tup ds) (.int i) d := ⟨_, ix_tup, fun M H v u Q mt hv hu k => by
  obtain ⟨a, xs, rfl, ha, ra⟩ := r_tup hv
  simp only [R] at hu
  obtain ⟨w, hw, rw'⟩ := ra.get hd
  exact ⟨a, xs, i, w, rfl, hu, ha, by unfold atI; rw [ra.length, hi]; exact hw, k _ H (Ext.refl _ _) rw'⟩⟩
theorem xd_str {s : Str} {i : Int} {j c : Nat} (hl : s.length ≤ sizeLine) (hi : ixN s.cps.toList.length i = some j) (hd : s.cps.toList[j]? = some c) : IxD X (.str s) (.int i) (.str ⟨#[c]⟩) := ⟨_, ix_str, fun M H v u Q mt hv hu k => by
  simp only [R] at hv hu
  exact ⟨s, i, c, hv, hu, hl, by unfold atI; rw [hi]; exact hd, k _ H (Ext.refl _ _) (by simp [R])⟩⟩
theorem ixN_nat {n j : Nat} (h : j < n) : ixN n (j : Int) = some j := by
  unfold ixN; rw [if_pos (by omega), if_pos (by omega)]; simp
theorem ixN_int {n : Nat} {i : Int} (h0 : 0 ≤ i) (h : i < n) : ixN n i = some i.toNat := by
  unfold ixN; rw [if_pos h0, if_pos h]
def cutD (ds : List D) (lo hi : Option Int) : List D := (ds.drop (HT.sIx ds.length 0 lo)).take (HT.sIx ds.length ds.length hi - HT.sIx ds.length 0 lo)
theorem Rs.cut {K : PySem.W.Frag} {mg : Str → Option Value} {xs : List V} (r : Rs K mg M H xs ds) (lo hi : Option Int) : Rs K mg M H (cutV xs lo hi) (cutD ds lo hi) := by
  unfold cutV cutD
  rw [r.length]
  exact (r.drop _).take _
theorem sd_lst {lo hi : Option Int} : SlD X (.lst ds) lo hi (.lst (cutD ds lo hi)) := ⟨_, sl_list, fun M H v Q mt hv k => by
  obtain ⟨a, xs, rfl, _, ha, ra⟩ := r_lst hv
  exact ⟨a, xs, rfl, .of ha, fun p hp => k _ _ (Ext.new hp) (r_newl mt hp (ra.cut lo hi))⟩⟩
theorem sd_tup {lo hi : Option Int} : SlD X (.tup ds) lo hi (.tup (cutD ds lo hi)) := ⟨_, sl_tupA, fun M H v Q mt hv k => by
  have hv0 := hv
  obtain ⟨a, xs, rfl, ha, ra⟩ := r_tup hv
  refine ⟨a, xs, rfl, ha, fun h => ?_, fun h p hp => k _ _ (Ext.new hp) (r_newt mt hp (ra.cut lo hi))⟩
  have e : cutD ds lo hi = ds := by
    unfold cutD
    rw [ra.length] at h
    rw [h.1, h.2]; simp
  rw [e] at k
  exact k _ H (Ext.refl _ _) hv0⟩
theorem sd_str {s : Str} {lo hi : Option Int} (h : s.length ≤ sizeLine) : SlD X (.str s) lo hi (.str (cutS s lo hi)) := ⟨_, sl_str, fun M H v Q mt hv k => by
  simp only [R] at hv
  exact ⟨s, hv, h, k _ H (Ext.refl _ _) (by simp [R])⟩⟩

/-! built-ins -/
theorem kd_lenL : CalD X (.builtin "len") [.lst ds] (.int ds.length) := ⟨_, call_len_seq, fun M H vs Q mt hv k => by
    obtain ⟨v, rfl, hw⟩ := rs1 hv
    obtain ⟨a, xs, rfl, _, ha, ra⟩ := r_lst hw
    exact ⟨a, xs, rfl, .inl (.of ha), k _ H (Ext.refl _ _) (by simp [R, ra.length])⟩⟩
theorem kd_lenT : CalD X (.builtin "len") [.tup ds] (.int ds.length) := ⟨_, call_len_seq, fun M H vs Q mt hv k => by
    obtain ⟨v, rfl, hw⟩ := rs1 hv
    obtain ⟨a, xs, rfl, ha, ra⟩ := r_tup hw
    exact ⟨a, xs, rfl, .inr ha, k _ H (Ext.refl _ _) (by simp [R, ra.length])⟩⟩
theorem kd_lenS {s : Str} (h : s.length ≤ sizeLine) : CalD X (.builtin "len") [.str s] (.int s.length) := ⟨_, call_len_str, fun M H vs Q mt hv k => by
    obtain ⟨v, rfl, this⟩ := rs1 hv
    simp only [R] at this
    exact ⟨s, by rw [this], h, k _ H (Ext.refl _ _) (by simp [R])⟩⟩
theorem kd_int {i : Int} : CalD X (.type "int") [.int i] (.int i) := ⟨_, call_int1, fun M H vs Q mt hv k => by
    obtain ⟨v, rfl, this⟩ := rs1 hv
    simp only [R] at this
    exact .inl ⟨i, by rw [this], k _ H (Ext.refl _ _) (by simp [R])⟩⟩
theorem kd_intB {b : Bool} : CalD X (.type "int") [.bl b] (.int (if b then 1 else 0)) := ⟨_, call_int1, fun M H vs Q mt hv k => by
    obtain ⟨v, rfl, this⟩ := rs1 hv
    simp only [R] at this
    exact .inr ⟨b, by rw [this], k _ H (Ext.refl _ _) (by simp [R])⟩⟩
theorem kd_strI {i : Int} (h : i.natAbs.log2 < 1920) : CalD X (.type "str") [.int i] (.str (toString i)) := ⟨_, call_str_int, fun M H vs Q mt hv k => by
    obtain ⟨v, rfl, this⟩ := rs1 hv
    simp only [R] at this
    exact ⟨i, by rw [this], h, k _ H (Ext.refl _ _) (by simp [R])⟩⟩
theorem kd_sum {ns : List Int} (hc : X.calm = true := by rfl) : CalD X (.builtin "sum") [.lst (ns.map D.int)] (.int ns.sum) := ⟨_, cr_sum hc, fun M H vs Q mt hv k => by
    obtain ⟨v, rfl, hw⟩ := rs1 hv
    obtain ⟨a, xs, rfl, _, ha, ra⟩ := r_lst hw
    obtain rfl := Rs.ints.mp ra
    exact ⟨a, ns, rfl, .of ha, k _ H (Ext.refl _ _) (by simp [R])⟩⟩
def maxI : List Int → Int
  | [] => 0
  | [a] => a
  | a :: b :: r => max a (maxI (b :: r))
theorem maxI_mem : ∀ {l : List Int}, l ≠ [] → maxI l ∈ l
  | [], h => absurd rfl h
  | [a], _ => by simp [maxI]
  | a :: b :: r, _ => by
    have ih := maxI_mem (l := b :: r) (by simp)
    unfold maxI
    by_cases h : a ≤ maxI (b :: r)
    · rw [Int.max_eq_right h]; exact List.mem_cons_of_mem _ ih
    · rw [Int.max_eq_left (by omega)]; exact List.mem_cons_self
theorem maxI_le : ∀ {l : List Int} {y : Int}, y ∈ l → y ≤ maxI l
  | [a], y, h => by simp at h; simp [maxI, h]
  | a :: b :: r, y, h => by
    unfold maxI
    rcases List.mem_cons.mp h with e | e
    · subst e; exact Int.le_max_left _ _
    · exact Int.le_trans (maxI_le e) (Int.le_max_right _ _)
theorem kd_max {ns : List Int} (hn : ns ≠ []) (hc : X.calm = true := by rfl) : CalD X (.builtin "max") [.lst (ns.map D.int)] (.int (maxI ns)) := ⟨_, cr_max hc, fun M H vs Q mt hv k => by
    obtain ⟨v, rfl, hw⟩ := rs1 hv
    obtain ⟨a, xs, rfl, _, ha, ra⟩ := r_lst hw
    obtain rfl := Rs.ints.mp ra
    refine ⟨a, ns, rfl, .of ha, List.length_pos_iff.mpr hn, fun m hm hle => ?_⟩
    have e : m = maxI ns := Int.le_antisymm (maxI_le hm) (hle _ (maxI_mem hn))
    subst e
    exact k _ H (Ext.refl _ _) (by simp [R])⟩
theorem kd_any {bs : List Bool} (hc : X.calm = true := by rfl) : CalD X (.builtin "any") [.lst (bs.map D.bl)] (.bl (bs.any id)) := ⟨_, cr_any hc, fun M H vs Q mt hv k => by
    obtain ⟨v, rfl, hw⟩ := rs1 hv
    obtain ⟨a, xs, rfl, _, ha, ra⟩ := r_lst hw
    obtain rfl := Rs.bls.mp ra
    exact ⟨a, bs, rfl, .of ha, k _ H (Ext.refl _ _) (by simp [R])⟩⟩
theorem kd_all {bs : List Bool} (hc : X.calm = true := by rfl) : CalD X (.builtin "all") [.lst (bs.map D.bl)] (.bl (bs.all id)) := ⟨_, cr_all hc, fun M H vs Q mt hv k => by
    obtain ⟨v, rfl, hw⟩ := rs1 hv
    obtain ⟨a, xs, rfl, _, ha, ra⟩ := r_lst hw
    obtain rfl := Rs.bls.mp ra
    exact ⟨a, bs, rfl, .of ha, k _ H (Ext.refl _ _) (by simp [R])⟩⟩
theorem kd_listL : CalD X (.type "list") [.lst ds] (.lst ds) := ⟨_, call_list_of, fun M H vs Q mt hv k => by
    obtain ⟨v, rfl, hw⟩ := rs1 hv
    obtain ⟨a, xs, rfl, _, ha, ra⟩ := r_lst hw
    exact ⟨a, xs, rfl, .inl (.of ha), fun p hp => k _ _ (Ext.new hp) (r_newl mt hp ra)⟩⟩
theorem kd_listT : CalD X (.type "list") [.tup ds] (.lst ds) := ⟨_, call_list_of, fun M H vs Q mt hv k => by
    obtain ⟨v, rfl, hw⟩ := rs1 hv
    obtain ⟨a, xs, rfl, ha, ra⟩ := r_tup hw
    exact ⟨a, xs, rfl, .inr ha, fun p hp => k _ _ (Ext.new hp) (r_newl mt hp ra)⟩⟩
theorem kd_tupL : CalD X (.type "tuple") [.lst ds] (.tup ds) := ⟨_, call_tuple_of, fun M H vs Q mt hv k => by
    obtain ⟨v, rfl, hw⟩ := rs1 hv
    obtain ⟨a, xs, rfl, _, ha, ra⟩ := r_lst hw
    exact ⟨a, xs, rfl, .inl ⟨.of ha, fun p hp => k _ _ (Ext.new hp) (r_newt mt hp ra)⟩⟩⟩
/-- sorted texts: the one list in order -/
theorem kd_sortedS {ss ts : List Str} (hl : ss.length < 64) (h : ∀ ys : List Str, ys.Perm ss → PyProof.Rows.sortedS ys = true → ys = ts) : CalD X (.builtin "sorted") [.lst (ss.map D.str)] (.lst (ts.map D.str)) := ⟨_, cr_sortedS, fun M H vs Q mt hv k => by
    obtain ⟨v, rfl, hw⟩ := rs1 hv
    obtain ⟨a, xs, rfl, _, ha, ra⟩ := r_lst hw
    obtain rfl := Rs.strs.mp ra
    refine ⟨a, ss, rfl, .of ha, hl, fun ys p h1 h2 hp => ?_⟩
    obtain rfl := h ys h1 h2
    exact k _ _ (Ext.new hp) (r_newl mt hp (Rs.strs.mpr rfl))⟩
/-- sep.join(texts) -/
theorem sd_joinL {s : Str} {ts : List Str} (h : (ts.map (·.length)).sum + ts.length * s.length ≤ 16777216) : StrD X "str.join" s [.lst (ts.map D.str)] (.str (Txt.join s ts)) := ⟨_, mt_join, fun M H vs Q mt hv k => by
    obtain ⟨v, rfl, hw⟩ := rs1 hv
    obtain ⟨a, xs, rfl, _, ha, ra⟩ := r_lst hw
    obtain rfl := Rs.strs.mp ra
    exact ⟨s, a, ts, rfl, rfl, .inl (.of ha), h, k _ H (Ext.refl _ _) (by simp [R])⟩⟩
/-! isinstance -/
/-- what isinstance asks of an own class -/
structure ClsI (K : PySem.W.Frag) (C : Addr) : Prop where
  cl : Cls K C
  ha : PySem.W.findIn K (.ref C) "__class__" = some (some (.builtin "object.__class__"))
  hn : PySem.W.specialIn K (.builtin "object.__class__") "__get__" = some (some (.builtin "getset_descriptor.__get__"))
  ht : PySem.W.takesIn K (.builtin "object.__class__") = some true
  hm : PySem.W.mroIn K C (.type "object") = some true
def tyN : D → Option String
  | .non => some "NoneType"
  | .bl _ => some "bool"
  | .int _ => some "int"
  | .str _ => some "str"
  | .lst _ => some "list"
  | .tup _ => some "tuple"
  | .dic _ _ => some "dict"
  | _ => none
theorem tyx_of {K : PySem.W.Frag} {mg : Str → Option Value} {v : V} {t : String} : ∀ {d : D}, tyN d = some t → R K mg M H v d → TyX K H v (.type t)
  | .non, h, r => by simp only [R] at r; simp only [tyN, Option.some.injEq] at h; subst r h; exact .base .non
  | .bl _, h, r => by simp only [R] at r; simp only [tyN, Option.some.injEq] at h; subst r h; exact .base (.bl _)
  | .int _, h, r => by simp only [R] at r; simp only [tyN, Option.some.injEq] at h; subst r h; exact .base (.int _)
  | .str _, h, r => by simp only [R] at r; simp only [tyN, Option.some.injEq] at h; subst r h; exact .base (.str _)
  | .lst _, h, r => by
    unfold R at r; simp only [tyN, Option.some.injEq] at h; subst h
    obtain ⟨a, xs, rfl, _, ha, _⟩ := r
    exact .base (.lst ha)
  | .tup _, h, r => by
    unfold R at r; simp only [tyN, Option.some.injEq] at h; subst h
    obtain ⟨a, xs, rfl, ha, _⟩ := r
    rcases ha with ⟨_, ha⟩ | ⟨o, its, n, h1, h2, h3, _⟩
    · exact .base (.tup ha)
    · exact .kTuple h1 h2
  | .dic _ _, h, r => by
    unfold R at r; simp only [tyN, Option.some.injEq] at h; subst h
    obtain ⟨a, xs, rfl, _, ha, _⟩ := r
    exact .base (.dK ha)
  | .ref _, h, r => by simp [tyN] at h
  | .ty _, h, r => by simp [tyN] at h
  | .obj _ _ _, h, r => by simp [tyN] at h
  | .scr _, h, r => by simp [tyN] at h
/-- isinstance(x, T) -/
theorem kd_isi {t n : String} {b : Bool} (h1 : tyN x = some t) (h2 : kitB t n = some b) : CalD X (.builtin "isinstance") [x, .ty n] (.bl b) := ⟨_, call_isi, fun M H vs Q mt hv k => by
    obtain ⟨v, u, rfl, r1, r2⟩ := rs2 hv
    simp only [R] at r2
    subst r2
    exact ⟨v, .ty n, .type t, .type n, b, rfl, .ty n, tyx_of h1 r1, kit_ty h2, k _ H (Ext.refl _ _) (by simp [R])⟩⟩
/-- isinstance(x, C), x plain -/
theorem kd_isiC {t : String} {C : Addr} {b : Bool} (h1 : tyN x = some t) (h2 : PySem.W.kitOne X.K (.type t) (.ref C) = some b) : CalD X (.builtin "isinstance") [x, .ref C] (.bl b) := ⟨_, call_isi, fun M H vs Q mt hv k => by
    obtain ⟨v, u, rfl, r1, r2⟩ := rs2 hv
    simp only [R] at r2
    subst r2
    exact ⟨v, .ref C, .type t, .ref C, b, rfl, .own C, tyx_of h1 r1, h2, k _ H (Ext.refl _ _) (by simp [R])⟩⟩
theorem tyx_obj {K : PySem.W.Frag} {mg : Str → Option Value} {v : V} {c : Str} {ns : List Str} {C : Addr} (hm : mg c = some (.ref C)) (I : ClsI K C) (r : R K mg M H v (.obj c ns ds)) : TyX K H v (.ref C) := by
  unfold R at r
  obtain ⟨a, C', dx, xs, rfl, _, hm', ha, _⟩ := r
  rw [hm] at hm'; cases hm'
  exact .base (.ins ha I.cl I.ha I.hn I.ht I.hm)
/-- isinstance(o, T), o an instance -/
theorem kd_isiO {c : Str} {ns : List Str} {C : Addr} {n : String} {b : Bool} (hm : X.mg c = some (.ref C)) (I : ClsI X.K C) (h2 : PySem.W.kitOne X.K (.ref C) (.type n) = some b) : CalD X (.builtin "isinstance") [.obj c ns ds, .ty n] (.bl b) := ⟨_, call_isi, fun M H vs Q mt hv k => by
    obtain ⟨v, u, rfl, r1, r2⟩ := rs2 hv
    simp only [R] at r2
    subst r2
    exact ⟨v, .ty n, .ref C, .type n, b, rfl, .ty n, tyx_obj hm I r1, h2, k _ H (Ext.refl _ _) (by simp [R])⟩⟩
theorem kd_isiOC {c : Str} {ns : List Str} {C C2 : Addr} {b : Bool} (hm : X.mg c = some (.ref C)) (I : ClsI X.K C) (h2 : PySem.W.kitOne X.K (.ref C) (.ref C2) = some b) : CalD X (.builtin "isinstance") [.obj c ns ds, .ref C2] (.bl b) := ⟨_, call_isi, fun M H vs Q mt hv k => by
    obtain ⟨v, u, rfl, r1, r2⟩ := rs2 hv
    simp only [R] at r2
    subst r2
    exact ⟨v, .ref C2, .ref C, .ref C2, b, rfl, .own C2, tyx_obj hm I r1, h2, k _ H (Ext.refl _ _) (by simp [R])⟩⟩
/-- isinstance(x, (S, T)) -/
theorem kd_isiT {t n1 n2 : String} {b1 b2 : Bool} (h1 : tyN x = some t) (q1 : kitB t n1 = some b1) (q2 : kitB t n2 = some b2) : CalD X (.builtin "isinstance") [x, .tup [.ty n1, .ty n2]] (.bl (b1 || b2)) := ⟨_, CallR.or call_isiT call_isiK, fun M H vs Q mt hv k => by
    obtain ⟨v, u, rfl, r1, r2⟩ := rs2 hv
    unfold R at r2
    obtain ⟨a, xs, rfl, ha, rr⟩ := r2
    obtain ⟨w1, w2, rfl, g1, g2⟩ := rs2 rr
    simp only [R] at g1 g2
    subst g1 g2
    have any2 : PySem.W.kitAny X.K (.type t) [.type n1, .type n2] = some (b1 || b2) := by
      refine kitAny_cons (kit_ty q1) (fun e => ?_) fun e => by rw [e]; rfl
      subst e
      refine kitAny_cons (kit_ty q2) (fun e => ?_) fun e => by rw [e]; rfl
      subst e
      exact kitAny_nil
    rcases ha with ⟨_, ha⟩ | ⟨⟨oc, dd, dt, sl⟩, its, n, k1, k2, k3, k4, k5⟩
    · exact .inl ⟨v, a, _, .type t, [.type n1, .type n2], _, rfl, ha, .cons (.ty _) (.cons (.ty _) .nil), tyx_of h1 r1, any2, k _ H (Ext.refl _ _) (by simp [R])⟩
    · simp only at k2 k3
      subst k2 k3
      have e5 : its.toList = [.type n1, .type n2] := by
        cases its with
        | mk l =>
          simp only at k5
          cases k5 with
          | cons a1 k6 =>
            cases k6 with
            | cons a2 k7 =>
              cases k7
              rw [show _ = _ from a1, show _ = _ from a2]
      refine .inr ⟨v, a, dd, its.toList, n, sl, .type t, _, rfl, by simpa using k1, tyx_of h1 r1, by rw [e5]; exact any2, k _ H (Ext.refl _ _) (by simp [R])⟩⟩
end
end Od

set_option Elab.async false
set_option linter.all false
set_option maxRecDepth 100000
set_option maxHeartbeats 4000000
/-! Od7: max(xs, default=d) of a list of ints -/
namespace Od
open PySem L2 PyProof.Rows
section
variable {prog : Program} {w : World} {A : Around} {rr : Result → Shared → Prop} {it bl : Addr} {fp wr : List Addr} {n : Nat} {pp : Nat → Value → Prop} {stt : Nat → Heap → Prop} {dv : Value}
def dfl (dv : Value) : List (Str × Value) := [(Str.ofString "default", dv)]
abbrev lsO (vs : Array Value) (c : Nat) : Obj := { cls := .type "list", dict := none, data := .seq vs c, slots := #[] }
theorem mxName : (toString "max" ++ toString ".loop" : String) = "max.loop" := by decide
/-- the turns behind the first -/
theorem mx_loop (W : PySem.Walks prog w A.in1 it fp wr n pp stt) (bt : Nat → Nat → Bool) (hc : CmpOf prog w A.in1 .Gt pp bt) (hb : bl ∉ fp) (k : Nat) : ∀ (j : Nat) (s : Shared) (vb : Value) (c : Nat), n - (j + 1) = k → j + 1 ≤ n → stt (j + 1) s.heap → pp (argBest bt j) vb → s.heap.get? bl = some (lsO #[vb, vb] c) →
    (∀ v h' tk, pp (argBest bt (n - 1)) v → (∀ b o, b ∉ wr → b ≠ bl → s.heap.get? b = some o → h'.get? b = some o) → rr (.ok (.ret v)) { s with heap := h', toks := tk }) → codeAny (model prog w) A (.builtin "max.loop" ⟨[.ref it, .none, .ref bl], dfl dv⟩) rr s := by
  have hw : bl ∉ wr := fun h => hb (W.sub _ h)
  induction k with
  | zero =>
    intro j s vb c hk hj hs hp hS hR
    have he : j + 1 = n := by omega
    refine codeAny_builtin (F.entry_max_loop) ?_
    rw [Around.under_plainId (F.plain_max_loop) _]
    show wpAny (model prog w) A.in1 ((seqItems? (.ref bl)) >>= _) _ _ s
    refine wpAny_bind (wpAny_seqItems (hS) rfl ?_)
    show wpAny (model prog w) A.in1 ((tryCatch (pyNext (.ref it)) _) >>= _) _ _ s
    refine wpAny_bind (wpAny_tryCatch (W.done (s) _ _ (he ▸ hs) fun h' tk hk' => ?_))
    have hS2 := hk' bl _ hw hS
    show wpAny (model prog w) A.in1 ((updateSeq bl (fun _ => #[])) >>= _) _ _ _
    refine wpAny_bind (wpAny_updateSeq (hS2) rfl (wpAny_bind (wpAny_letGo (wpAny_pure (hR vb _ tk (by rw [← he]; exact hp) fun b o b1 b2 e => ?_)))))
    exact (Heap.get?_update_other _ _ fun z => b2 z.symm).trans (hk' b o b1 e)
  | succ k ih =>
    intro j s vb c hk hj hs hp hS hR
    have he : j + 1 < n := by omega
    refine codeAny_builtin (F.entry_max_loop) ?_
    rw [Around.under_plainId (F.plain_max_loop) _]
    show wpAny (model prog w) A.in1 ((seqItems? (.ref bl)) >>= _) _ _ s
    refine wpAny_bind (wpAny_seqItems (hS) rfl ?_)
    show wpAny (model prog w) A.in1 ((tryCatch (pyNext (.ref it)) _) >>= _) _ _ s
    refine wpAny_bind (wpAny_tryCatch (W.item (j + 1) (s) _ _ he hs fun v h' tk hv hs' hk' => ?_))
    have hS2 := hk' bl _ hw hS
    show wpAny (model prog w) A.in1 ((tryCatch (holding [v, v] (richCompare .Gt v vb >>= _)) _) >>= _) _ _ _
    refine wpAny_bind (wpAny_tryCatch (wpAny_holding (wpAny_bind (hc (j + 1) (argBest bt j) v vb _ _ _ hv hp (wpAny_bind (wpAny_holding (wpAny_truthy_bool (wpAny_bind (wpAny_letGo (wpAny_pure ?_))))))))))
    cases hbb : bt (j + 1) (argBest bt j) with
    | true =>
      simp only [if_true]
      refine wpAny_bind (wpAny_updateSeq (hS2) rfl (wpAny_bind (wpAny_letGo ?_)))
      rw [mxName]
      refine wpAny_pure ⟨plainId_quiet (F.plain_max_loop) _, ih (j + 1) _ v _ (by omega) he (W.frame _ _ _ hs' fun b b1 o e => ?_) (by simp only [argBest, hbb, if_true]; exact hv) (Heap.get?_update_self _ hS2 rfl) fun v' h2 tk2 hv' hk2 => hR v' h2 tk2 hv' fun b o b1 b2 e => ?_⟩
      · exact (Heap.get?_update_other _ _ fun z => hb (by rw [z]; exact b1)).trans e
      · exact hk2 b o b1 b2 ((Heap.get?_update_other _ _ fun z => b2 z.symm).trans (hk' b o b1 e))
    | false =>
      simp only [Bool.false_eq_true, if_false]
      refine wpAny_bind (wpAny_letGo ?_)
      rw [mxName]
      exact wpAny_pure ⟨plainId_quiet (F.plain_max_loop) _, ih (j + 1) _ vb c (by omega) he hs' (by simp only [argBest, hbb, Bool.false_eq_true, if_false]; exact hp) hS2 fun v' h2 tk2 hv' hk2 => hR v' h2 tk2 hv' fun b o b1 b2 e => hk2 b o b1 b2 (hk' b o b1 e)⟩
theorem mx_key (a dv : Value) : argsOk "max" ⟨[a], dfl dv⟩ := by unfold argsOk; kernel_rfl
end
section
variable {prog : Program} {w : World} {A : Around} {E : Value → Shared → Prop} {s : Shared} {l : Addr} {xs : Array (Int × Tok)} {Q : Value → Shared → Prop} {dv : Value}
theorem max_dfl (hh : A.handled = none) (hl : s.heap.IsList l (intItems xs)) (h0 : xs.size = 0 → ∀ h' tk, (∀ b o, s.heap.get? b = some o → h'.get? b = some o) → Q dv { s with heap := h', toks := tk })
    (h : 0 < xs.size → ∀ v h' tk, (intItems xs)[argBest (fun i j => decide (numAt xs i > numAt xs j)) (xs.size - 1)]? = some v → (∀ b o, s.heap.get? b = some o → h'.get? b = some o) → Q v { s with heap := h', toks := tk }) :
    wpAny (model prog w) A (call (.builtin "max") [.ref l] (dfl dv)) Q E s := by
  refine kmk_tree F.kind_max F.plain_max F.entry_max (mx_key _ _) ?_
  show wpAny (model prog w) A.in1 ((Builtin.Builtins.bindParams "max" ["key", "default"] 0 ⟨[], dfl dv⟩) >>= _) _ _ s
  refine wpAny_bind (wpAny_of_eq (show Builtin.Builtins.bindParams "max" ["key", "default"] 0 ⟨[], dfl dv⟩ = pure [none, some dv] from rfl) (wpAny_bind (wpAny_pure (wpAny_bind (iter_intList hl fun s2 e st hfp hne => ?_)))))
  subst e
  refine wpAny_bind (wpAny_newObj_type ?_)
  rw [mxName]
  have W := PySem.Walks.list (prog := prog) (w := w) (A := A.in1) hh _ l hne (intItems xs)
  have hS : (s.heap.push { cls := .type "list_iterator", data := .fields #[.ref l, .int 0 0] }).objs.size ∉ [s.heap.objs.size, l] := fun hm => Nat.lt_irrefl _ (hfp _ hm)
  refine wpAny_pure ⟨plainId_quiet (F.plain_max_loop) _, ?_⟩
  have g1 := Heap.get?_push_size (s.heap.push { cls := .type "list_iterator", data := .fields #[.ref l, .int 0 0] }) (o := lsO #[] 0) rfl
  have kp : ∀ b o, b ∉ [s.heap.objs.size] → (s.heap.push { cls := .type "list_iterator", data := .fields #[.ref l, .int 0 0] }).get? b = some o → b ≠ (s.heap.push { cls := .type "list_iterator", data := .fields #[.ref l, .int 0 0] }).objs.size := fun b o _ e => Nat.ne_of_lt (Heap.lt_size e)
  have s0 := W.frame 0 _ ((s.heap.push { cls := .type "list_iterator", data := .fields #[.ref l, .int 0 0] }).push (lsO #[] 0)) st fun b _ o e => Heap.get?_push_of_some _ e
  have hw : (s.heap.push { cls := .type "list_iterator", data := .fields #[.ref l, .int 0 0] }).objs.size ∉ [s.heap.objs.size] := fun hm => hS (List.mem_cons.mpr (.inl (List.mem_singleton.mp hm)))
  have sz : (intItems xs).size = xs.size := by simp [intItems]
  refine codeAny_builtin (F.entry_max_loop) ?_
  rw [Around.under_plainId (F.plain_max_loop) _]
  show wpAny (model prog w) A.in1 ((seqItems? (.ref _)) >>= _) _ _ _
  refine wpAny_bind (wpAny_seqItems (g1) rfl ?_)
  show wpAny (model prog w) _ ((tryCatch (pyNext (.ref _)) _) >>= _) _ _ _
  by_cases hz : xs.size = 0
  · refine wpAny_bind (wpAny_tryCatch (W.done _ _ _ (by rw [sz, hz]; exact s0) fun h' tk hk' => ?_))
    refine wpAny_bind (wpAny_rule (wpAny_pure (h0 hz h' tk fun b o e => hk' b o (fun z => ?_) ?_)))
    · exact absurd (Heap.lt_size e) (by rw [List.mem_singleton.mp z]; exact Nat.lt_irrefl _)
    · exact Heap.get?_push_of_some _ (Heap.get?_push_of_some _ e)
  · have hp : 0 < xs.size := Nat.pos_of_ne_zero hz
    refine wpAny_bind (wpAny_tryCatch (W.item 0 _ _ _ (by rw [sz]; exact hp) s0 fun v h' tk hv hs' hk' => ?_))
    have hS2 := hk' _ _ hw g1
    show wpAny (model prog w) A.in1 ((updateSeq _ (fun _ => #[v, v])) >>= _) _ _ _
    refine wpAny_bind (wpAny_updateSeq (hS2) rfl ?_)
    rw [mxName]
    refine wpAny_pure ⟨plainId_quiet (F.plain_max_loop) _, mx_loop W _ (CmpOf.ints_gt (numAt xs) (fun _ _ => intItems_at)) hS _ 0 _ v _ rfl (by rw [sz]; exact hp) (W.frame _ _ _ hs' fun b b1 o e => ?_) hv (Heap.get?_update_self _ hS2 rfl) fun v' h2 tk2 hv' hk2 => h hp v' h2 tk2 (by rw [sz] at hv'; exact hv') fun b o e => ?_⟩
    · exact (Heap.get?_update_other _ _ fun z => hS (by rw [z]; exact b1)).trans e
    · have lb := Heap.lt_size e
      have b1 : b ∉ [s.heap.objs.size] := fun z => absurd lb (by rw [List.mem_singleton.mp z]; exact Nat.lt_irrefl _)
      have e2 := Heap.get?_push_of_some ({ cls := .type "list_iterator", data := .fields #[.ref l, .int 0 0] } : Obj) e
      have b2 := kp b o b1 e2
      exact hk2 b o b1 b2 ((Heap.get?_update_other _ _ fun z => b2 z.symm).trans (hk' b o b1 (Heap.get?_push_of_some _ e2)))
theorem max_dflI {its : List Value} {ns : List Int} (hh : A.handled = none) (hl : s.heap.IsList l its.toArray) (hi : IntsAre its ns) (h0 : ns = [] → ∀ h' tk, (∀ b o, s.heap.get? b = some o → h'.get? b = some o) → Q dv { s with heap := h', toks := tk })
    (h : ns ≠ [] → ∀ h' tk m t', (∀ b o, s.heap.get? b = some o → h'.get? b = some o) → m ∈ ns → (∀ a, a ∈ ns → a ≤ m) → Q (.int m t') { s with heap := h', toks := tk }) : wpAny (model prog w) A (call (.builtin "max") [.ref l] (dfl dv)) Q E s := by
  obtain ⟨xs, e⟩ := hi.allInts.items
  have hn : numsOf (intItems xs).toList = ns := by rw [← e]; exact hi.numsOf
  rw [nums_intItems] at hn
  subst hn
  rw [e] at hl
  have lz : (xs.toList.map (·.1)).length = xs.size := by simp
  refine max_dfl hh hl (fun z h' tk hk => h0 (List.eq_nil_of_length_eq_zero (by rw [lz]; exact z)) h' tk hk) fun hp v h' tk hv hk => ?_
  obtain ⟨t, rfl⟩ := intItems_at hv
  obtain ⟨h1, h2⟩ := argBest_gt (numAt xs) (xs.size - 1)
  refine h (fun z => by rw [z] at lz; simp at lz; omega) h' tk _ t hk ?_ fun a ha => ?_
  · rw [numAt_eq]; exact getD_mem (by rw [lz]; omega)
  · obtain ⟨j, hj, rfl⟩ := mem_getD ha
    rw [lz] at hj
    rw [← numAt_eq]; exact h2 j (by omega)
end
section
variable {X : Cx} {M : Addr → Prop} {e : DE} {cs cs1 cs2 cs3 : Cs} {pos p pos' apos : Pos} {a b c ex o : Expr} {es : List Expr} {d x y z : D} {ds : List D} {n m : Str}
def maxDI (d : Int) : List Int → Int
  | [] => d
  | a :: r => maxI (a :: r)
/-- max(xs, default=d) -/
theorem e_maxD {ns : List Int} {dv : Int} {kv : Expr} {kp : Pos} (ha : EE X M e cs a (.lst (ns.map D.int)) cs1) (hb : EE X M e cs1 kv (.int dv) cs2) (hm : X.mg "max" = none) (hc : X.calm = true := by rfl) (hg : Gl X "max" := by rfl)
    (hk : ∀ t, PE X kv t → PK X [⟨some "default", kv, kp⟩] (tCons t tNil))
    (he : backTo pos (starEach [a] X.env) = (false, eval a X.env) :: backTo pos (starEach [] X.env) := by rfl) (hpl : (backTo pos (starEach [a] X.env)).any (·.1) = false := by rfl)
    (hall : (backToKw pos (keywordEach [⟨some "default", kv, kp⟩] X.env)).all (·.1.isSome) = true := by rfl) (hnone : (backToKw pos (keywordEach [⟨some "default", kv, kp⟩] X.env)).any (·.1.isNone) = false := by rfl) (hks : (backToKw pos (keywordEach [⟨some "default", kv, kp⟩] X.env)).filterMap (·.1) = [Str.ofString "default"] := by rfl)
    (hst : starEach [a] X.env = (false, eval a X.env) :: starEach [] X.env := by rfl) : EE X M e cs (.Call (.Name "max" p) [a] [⟨some "default", kv, kp⟩] pos) (.int (maxDI dv ns)) cs2 where
  dm := hb.dm.trans ha.dm
  k := fun σ H Q S k => by
    have cr : CallRK X (.builtin "max") [Str.ofString "default"] (fun vs zs H Q => ∃ (a : Addr) (ns : List Int) (dv : Int), vs = [V.ref a] ∧ zs = [V.int dv] ∧ SqL X.K H a (ns.map V.int) ∧ Q (.int (maxDI dv ns)) H) := by
      intro pins s σ H xs zs us ws Q I r1 r2 h
      obtain ⟨a, ns, dv, rfl, rfl, hs, q⟩ := h
      obtain ⟨its, rv, hl, _⟩ := I.list hs
      rw [Vals.ref1 r1]
      cases r2 with
      | cons rr tt =>
        cases tt
        obtain ⟨t, rfl⟩ := rr
        refine max_dflI (I.ok.hd hc) hl.isList rv.ints (fun z h' tk hk => ?_) fun z h' tk mm t' hk h1 h2 => ?_
        · subst z
          exact ⟨.int dv, H, I.kept hk, ⟨t, rfl⟩, q⟩
        · refine ⟨.int mm, H, I.kept hk, ⟨t', rfl⟩, ?_⟩
          have e : maxDI dv ns = mm := by
            cases ns with
            | nil => exact absurd rfl z
            | cons a r => exact Int.le_antisymm (h2 _ (maxI_mem (by simp))) (maxI_le h1)
          rw [← e]; exact q
    refine we_of (pe_callBK cr hg hm (by decide +kernel) (pa_cons pe_w pa_nil hst) (hk _ pe_w) (by decide) (by decide) he hpl hall hnone hks) (ha.k σ H _ S fun v H1 S1 x1 r1 => hb.k σ H1 _ S1 fun u H2 S2 x2 r2 => ?_)
    simp only [R] at r2
    subst r2
    have r1' := S1.r x2 r1
    obtain ⟨ad, xs, rfl, _, hq, rr⟩ := r_lst r1'
    obtain rfl := Rs.ints.mp rr
    exact ⟨ad, ns, dv, rfl, rfl, .of hq, k _ H2 S2 (x1.trans (by rw [← ha.dm]; exact x2)) (by simp [R])⟩
end
end Od

set_option Elab.async false
set_option linter.all false
set_option maxRecDepth 100000
set_option maxHeartbeats 4000000
/-! Od8: cells of lists, own operators, tables of the module, zip -/
namespace Od
open PySem L2
section
variable {X : Cx} {M : Addr → Prop} {e : DE} {cs cs1 cs2 cs3 : Cs} {fr : Frs} {D0 : Ends} {pos p pos' apos : Pos} {a b c ex o : Expr} {es : List Expr} {rest : List Stmt} {d x y z : D} {ds es' : List D} {n m : Str} {k j : Nat}
theorem cell_lst {σ : L2.St} {H : Hp} {ad : Addr} (S : Sit X.K X.mg M σ H e cs) (hin : (ad, MC.lst ds) ∈ cs) : M ad ∧ ∃ xs, H ad = some (.lst xs) ∧ Rs X.K X.mg M H xs ds := by
  obtain ⟨h1, h2⟩ := S.cel _ hin
  exact ⟨h1, h2⟩
/-- b[i], b a list that may change -/
theorem e_ixc {ad : Addr} {i : Int} {j : Nat} (ha : EE X M e cs a (.ref ad) cs) (hb : EE X M e cs b (.int i) cs) (hin : (ad, MC.lst ds) ∈ cs) (hi : ixN ds.length i = some j) (hd : ds[j]? = some d) (hs : PlainIx b := by intro _ _; rfl) : EE X M e cs (.Subscript a b pos) d cs where
  dm := rfl
  k := fun σ H Q S k => by
    refine we_of (pe_ix ix_list pe_w pe_w hs) (ha.k σ H _ S fun v H1 S1 x1 r1 => hb.k σ H1 _ S1 fun u H2 S2 x2 r2 => ?_)
    simp only [R] at r1 r2
    obtain ⟨_, xs, h3, rs⟩ := cell_lst S2 hin
    obtain ⟨w, hw, rw'⟩ := rs.get hd
    exact ⟨ad, xs, i, w, r1, r2, .of h3, by unfold atI; rw [rs.length, hi]; exact hw, k _ H2 S2 (x1.trans x2) rw'⟩
/-- len(b), b a list that may change -/
theorem e_lenc {ad : Addr} (ha : EE X M e cs a (.ref ad) cs) (hin : (ad, MC.lst ds) ∈ cs) (hm : X.mg "len" = none) (hg : Gl X "len" := by rfl) (he : starEach [a] X.env = (false, eval a X.env) :: starEach [] X.env := by rfl) : EE X M e cs (.Call (.Name "len" p) [a] [] pos) (.int ds.length) cs where
  dm := rfl
  k := fun σ H Q S k => by
    refine we_of (pe_callB call_len_seq hg hm PySem.boot_len (pa_cons pe_w pa_nil he) (by decide) (by decide) he rfl) (ha.k σ H _ S fun v H1 S1 x1 r1 => ?_)
    simp only [R] at r1
    obtain ⟨_, xs, h3, rs⟩ := cell_lst S1 hin
    exact ⟨ad, xs, by rw [r1], .inl (.of h3), k _ H1 S1 x1 (by simp [R, rs.length])⟩
/-- a told thing is written -/
theorem sit_put {σ : L2.St} {H : Hp} {ad : Addr} {mc mc' : MC} {ho : HO} (S : Sit X.K X.mg M σ H e cs) (hu : Upd1 ad mc mc' cs cs2) (hc : Cell X.K X.mg M (upd H ad ho) ad mc') : Sit X.K X.mg M σ (upd H ad ho) e cs2 := by
  have mm := (S.cel _ hu.mem).1
  have hnm : ∀ b o, ¬ M b → H b = some o → upd H ad ho b = some o := fun b o nb h => by rw [upd_ne (fun z => nb (by rw [z]; exact mm))]; exact h
  refine ⟨fun b mb => ?_, S.len, fun i d' q => ?_, fun q hq => ?_, ?_⟩
  · by_cases h : b = ad
    · subst h; rw [upd_same]; simp
    · rw [upd_ne h]; exact S.mt b mb
  · obtain ⟨u, e3, r⟩ := S.env i d' q
    exact ⟨u, e3, R.ext hnm (fun _ n _ => n) _ r⟩
  · rcases hu.of S.nd q hq with rfl | ⟨q1, q2⟩
    · exact ⟨mm, hc⟩
    · exact ⟨(S.cel q q1).1, (S.cel q q1).2.ext hnm (fun _ n _ => n) fun o h => by rw [upd_ne q2]; exact h⟩
  · rw [show cs2.map (·.1) = cs.map (·.1) from hu.dm]; exact S.nd
theorem ext_put {H : Hp} {ad : Addr} {ho : HO} (hin : ad ∈ dom cs) : Ext (dom cs) H (upd H ad ho) := fun b o h n => by
  rw [upd_ne (fun z => n (by rw [z]; exact hin))]; exact h
theorem Upd1.dom {ad : Addr} {mc mc' : MC} (hu : Upd1 ad mc mc' cs cs2) : ad ∈ Od.dom cs := List.mem_map_of_mem (f := (·.1)) hu.mem
/-- b[i] = v, b a list that may change -/
theorem at_sub {ad : Addr} {i : Int} {j : Nat} {pt : Pos} (hv : EE X M e cs ex d cs1) (ha : EE X M e cs1 a (.ref ad) cs1) (hb : EE X M e cs1 b (.int i) cs1) (hu : Upd1 ad (.lst ds) (.lst (ds.set j d)) cs1 cs2) (hi : ixN ds.length i = some j)
    (k : At X M e cs2 fr (wSs X rest D0)) (hs : swapsWith ex (some (.Subscript a b pt)) pos.line X.env = pure false := by rfl)
    (hx : ∀ v, assign (.Subscript a b pt) X.env v = (do
      let ov ← holding [v] (eval a X.env)
      let iv ← holding [v, ov] (eval b X.env)
      standAt pt
      holding [v, ov, iv] (setItem ov iv v)
      release [v, ov, iv] []) := by intro _; rfl)
    (hps : ∀ g, PG X (.Subscript a b pt) g → PS X (.Assign [.Subscript a b pt] ex pos) (tAsg (wE X ex) g) := by intro g hg; exact ps_asg pe_w hg rfl rfl rfl) : At X M e cs fr (wSs X (.Assign [.Subscript a b pt] ex pos :: rest) D0) := fun σ H S x l =>
  wss_of (pss_cons (hps _ (pg_sub pe_w pe_w set_list hx)) pss_w) (hv.k σ H _ S fun v H1 S1 x1 r1 => ha.k σ H1 _ S1 fun w H2 S2 x2 r2 => hb.k σ H2 _ S2 fun u H3 S3 x3 r3 => by
    simp only [R] at r2 r3
    obtain ⟨mm, xs, h3, rs⟩ := cell_lst S3 hu.mem
    have r1' := S2.r x3 (S1.r x2 r1)
    refine ⟨ad, xs, i, j, r2, r3, h3, by rw [rs.length]; exact hi, ?_⟩
    have hnm : ∀ b o, ¬ M b → H3 b = some o → upd H3 ad (.lst (xs.set j v)) b = some o := fun b o nb h => by rw [upd_ne (fun z => nb (by rw [z]; exact mm))]; exact h
    refine k σ _ (sit_put S3 hu ⟨_, upd_same, Rs.ext hnm (fun _ n _ => n) _ (rs.set j r1')⟩) ?_ (lo_of l (hu.dm.trans hv.dm))
    have l1 : Lo fr cs1 := lo_of l hv.dm
    exact ext_on (ext_on (ext_on (ext_on x l x1) l1 x2) l1 x3) l1 (ext_put hu.dom))

/-! ### a table of the module: texts by texts -/
theorem xd_kd {pa : Addr} {s t : Str} (h : KDct X.K X.w pa s (.str t)) : IxD X (.ref pa) (.str s) (.str t) := ⟨_, ix_kdict, fun M H v u Q mt hv hu k => by
  simp only [R] at hv hu
  exact ⟨pa, s, .str t, hv, hu, h, k _ H (Ext.refl _ _) (by simp [R])⟩⟩

/-! ### own operators -/
/-- a def of the class under a special name -/
structure Dun (P : Program) (w : World) (K : PySem.W.Frag) (mg : Str → Option Value) (base : Heap) (c m : Str) (k : Nat) (sp : Sp) : Prop where
  ex : ∃ C f, mg c = some (.ref C) ∧ PySem.W.findIn K (.ref C) m = some (some (.ref f)) ∧ PySem.W.isFn K (.ref f) = true ∧ FnR P w K mg base CX0 k f sp
variable {ι : Type} {pre : ι → Prop} {args : ι → List D} {res : ι → D}
theorem pu_use {H : Hp} {Q : VK} {E : XK} {vs : List V} (i : ι) (hp : pre i) (mt : ∀ a, M a → H a ≠ none) (r : Rs X.K X.mg M H vs (args i)) (k : Gives X M H (res i) Q) : puSp X.K X.mg pre args res vs H Q E :=
  ⟨M, i, hp, mt, r, by simp, by simp, fun v H' mt' xt _ rv => k v H' xt rv⟩
theorem ud_own {cn : Str} {ns : List Str} (F : Dun X.prog X.w X.K X.mg X.base cn "__neg__" k (puSp X.K X.mg pre args res)) (hr : Room k X.A) (i : ι) (hp : pre i) (hds : [.obj cn ns ds] = args i) : UnD X .USub (.obj cn ns ds) (res i) := by
  obtain ⟨C, f, hm, hf, hfn, F⟩ := F.ex
  have ur : UnR X (unaryOp .USub) (fun x H Q => ∃ a dx fs, x = .ref a ∧ H a = some (.ins C dx fs) ∧ puSp X.K X.mg pre args res [.ref a] H Q E0) := by
    intro pins s σ H x v Q I rx h
    obtain ⟨a, dx, fs, rfl, ea, q⟩ := h
    cases (show v = Value.ref a from rx)
    obtain ⟨mA, O, _, _, _, _⟩ := ins_get I.hok ea
    obtain ⟨od, J, _⟩ := O.look
    obtain ⟨m, hF⟩ := I.fr
    exact PySem.W.ksp_neg hF I.ok.mod.kin J hf hfn (wpAny_call (run_fnR (us := [.ref a]) (vs := [.ref a]) F hr pass0 I (.cons rfl .nil) q))
  refine ⟨_, ur, fun M H v Q mt hv k => ?_⟩
  have hv0 := hv
  obtain ⟨ad, C', dx, xs, rfl, _, hm', ho, hl, rs⟩ := r_obj hv
  rw [hm] at hm'; cases hm'
  exact ⟨ad, dx, _, rfl, ho, pu_use i hp mt (by rw [← hds]; exact .cons hv0 .nil) k⟩
/-- x == y, x and y of one class with its own def -/
theorem cd_own {op : CmpOp} {cn : Str} {ns : List Str} {b0 : Bool} {nm : Str} (F : Dun X.prog X.w X.K X.mg X.base cn nm k (puSp X.K X.mg pre args res)) (hn : ∀ C, X.mg cn = some (.ref C) → PySem.W.notFirst X.K C (.ref C) = true) (hr : Room k X.A) (i : ι) (hp : pre i) (hds : [.obj cn ns ds, .obj cn ns es'] = args i) (hb : res i = .bl b0)
    (hop : ∀ a b, compareOp op a b = richCompare op a b := by intro _ _; rfl) (hi : (cmpInfo op).2.1 = nm := by rfl) : CmpD X op (.obj cn ns ds) (.obj cn ns es') b0 := by
  subst hi
  obtain ⟨C, f, hm, hf, hfn, F⟩ := F.ex
  have ur : OpR X (compareOp op) (fun x y H Q => ∃ a dx fs b dy gs, x = .ref a ∧ y = .ref b ∧ H a = some (.ins C dx fs) ∧ H b = some (.ins C dy gs) ∧ puSp X.K X.mg pre args res [.ref a, .ref b] H Q E0) := by
    intro pins s σ H x y v u Q I rx ry h
    obtain ⟨a, dx, fs, b, dy, gs, rfl, rfl, ea, eb, q⟩ := h
    cases (show v = Value.ref a from rx)
    cases (show u = Value.ref b from ry)
    obtain ⟨mA, O, _, _, _, _⟩ := ins_get I.hok ea
    obtain ⟨od, J, _⟩ := O.look
    obtain ⟨mB, O2, _, _, _, _⟩ := ins_get I.hok eb
    obtain ⟨od2, J2, _⟩ := O2.look
    obtain ⟨m, hF⟩ := I.fr
    rw [hop]
    refine PySem.W.cmp_K (op := op) (tb := .ref C) hr.units0 hF I.ok.mod.kin J J2.type (hn C hm) hf hfn ?_
    refine wpAny_mono (wpAny_call (run_fnR (us := [.ref a, .ref b]) (vs := [.ref a, .ref b]) F hr pass0 I (.cons rfl (.cons rfl .nil)) q)) (fun w s' z => ?_) fun _ _ x => x
    obtain ⟨z', H', I', rz, qz⟩ := z
    exact SlX.cmpback rz ⟨z', H', I', rz, qz⟩
  refine ⟨_, ur, fun M H v u Q mt hv hu k => ?_⟩
  have hv0 := hv
  have hu0 := hu
  obtain ⟨ad, C', dx, xs, rfl, _, hm', ho, hl, rs⟩ := r_obj hv
  rw [hm] at hm'; cases hm'
  obtain ⟨ad2, C', dx2, xs2, rfl, _, hm', ho2, hl2, rs2⟩ := r_obj hu
  rw [hm] at hm'; cases hm'
  exact ⟨ad, dx, _, ad2, dx2, _, rfl, rfl, ho, ho2, pu_use i hp mt (by rw [← hds]; exact .cons hv0 (.cons hu0 .nil)) (by rw [hb]; exact k)⟩
end

/-! ### the script -/
section
variable {X : Cx} {M : Addr → Prop}
theorem sd_scr {ns : List Int} {lo hi : Option Int} : SlD X (.scr ns) lo hi (.lst (cutD (ns.map D.int) lo hi)) := ⟨_, sl_list, fun M H v Q mt hv k => by
  unfold R at hv
  obtain ⟨a, rfl, q⟩ := hv
  refine ⟨a, ns.map V.int, rfl, ?_, fun p hp => k _ _ (Ext.new hp) (r_newl mt hp ((Rs.ints.mpr rfl : Rs X.K X.mg M H (ns.map V.int) (ns.map D.int)).cut lo hi))⟩
  rcases q with ⟨_, q⟩ | q
  · exact .inl q
  · exact .inr q⟩
theorem r_scr {H : Hp} {a : Addr} {ns : List Int} (m : ∀ a, ¬ M a) (h : SqL X.K H a (ns.map V.int)) : R X.K X.mg M H (.ref a) (.scr ns) := by
  unfold R
  refine ⟨a, rfl, ?_⟩
  rcases h with h | h
  · exact .inl ⟨m a, h⟩
  · exact .inr h
end
end Od

set_option Elab.async false
set_option linter.all false
set_option maxRecDepth 100000
set_option maxHeartbeats 4000000
/-! Od9: instances in the making, fields of things that may change, walks over pairs -/
namespace Od
open PySem L2
section
variable {X : Cx} {M : Addr → Prop} {e : DE} {cs cs1 cs2 cs3 : Cs} {fr : Frs} {D0 : Ends} {pos p pos' apos : Pos} {tg a b c ex o : Expr} {es : List Expr} {rest : List Stmt} {d x y z : D} {ds es' : List D} {n m : Str} {k j : Nat}
/-- self.f, self a thing that may change -/
theorem e_fldc {ad C : Addr} {cn : Str} {ns : List Str} (ha : EE X M e cs a (.ref ad) cs) (hin : (ad, MC.obj cn ns ds) ∈ cs) (hm : X.mg cn = some (.ref C)) (hc : Cls X.K C) (hn : NoAttr X.K C m) (i : Nat) (hi : ns.idxOf? m = some i) (hd : ds[i]? = some d)
    (hb : attributeBase a m X.env (eval a X.env) = eval a X.env := by rfl) : EE X M e cs (.Attribute a m pos) d cs where
  dm := rfl
  k := fun σ H Q S k => we_of (pe_fld pe_w hb) (ha.k σ H _ S fun v H1 S1 x1 r1 => by
    simp only [R] at r1
    obtain ⟨_, C', dx, xs, hm', ho, hl, rs⟩ := S1.cel _ hin
    rw [hm] at hm'; cases hm'
    obtain ⟨u, hu, ru⟩ := rs.get hd
    exact ⟨ad, C, dx, _, u, r1, ho, hc, hn, zip_lookup hi hu, k u H1 S1 x1 ru⟩)
theorem putF_new {m : Str} {x : V} : ∀ {ns : List Str} {xs : List V}, m ∉ ns → xs.length = ns.length → putF m x (ns.zip xs) = (ns ++ [m]).zip (xs ++ [x])
  | [], [], _, _ => rfl
  | n :: ns, y :: xs, h, l => by
    have h1 : ¬ n = m := fun z => h (by simp [z])
    show (if n = m then _ else (n, y) :: putF m x (ns.zip xs)) = _
    rw [if_neg h1, putF_new (fun z => h (List.mem_cons_of_mem _ z)) (by simpa using l)]
    rfl
  | [], _ :: _, _, l => by simp at l
  | _ :: _, [], _, l => by simp at l
theorem putF_at {m : Str} {x : V} : ∀ {ns : List Str} {xs : List V} {i : Nat}, ns.idxOf? m = some i → xs.length = ns.length → putF m x (ns.zip xs) = ns.zip (xs.set i x)
  | [], _, _, h, _ => by simp at h
  | n :: ns, [], _, _, l => by simp at l
  | n :: ns, y :: xs, i, h, l => by
    show (if n = m then (n, x) :: ns.zip xs else (n, y) :: putF m x (ns.zip xs)) = _
    rw [List.idxOf?_cons] at h
    by_cases q : n = m
    · subst q
      simp at h; subst h
      rw [if_pos rfl]; rfl
    · simp [q] at h
      obtain ⟨j, hj, rfl⟩ := h
      rw [if_neg q, putF_at hj (by simpa using l)]
      rfl
/-- self.f = v, f new -/
theorem at_fldN {ad C : Addr} {cn : Str} {ns : List Str} (hv : EE X M e cs ex d cs1) (ho : EE X M e cs1 a (.ref ad) cs1) (hm : X.mg cn = some (.ref C)) (hcl : Cls X.K C) (hn : NoAttr X.K C m) (hlen : ns.length < 900) (hnew : m ∉ ns) (hu : Upd1 ad (.obj cn ns ds) (.obj cn (ns ++ [m]) (ds ++ [d])) cs1 cs2)
    (k : At X M e cs2 fr (wSs X rest D0)) (hs : swapsWith ex (some (.Attribute a m pos')) pos.line X.env = pure false := by rfl) : At X M e cs fr (wSs X (.Assign [.Attribute a m pos'] ex pos :: rest) D0) :=
  at_fld (o := ex) (cs' := cs) hv ho hm hcl hn hlen hu.mem hu (fun x xs l => ⟨xs ++ [x], putF_new hnew l, by simp [l], fun H r rs => rs.append (.cons r .nil)⟩) k hs
/-- self.f = v, f there already -/
theorem at_fldU {ad C : Addr} {cn : Str} {ns : List Str} (i : Nat) (hv : EE X M e cs ex d cs1) (ho : EE X M e cs1 a (.ref ad) cs1) (hm : X.mg cn = some (.ref C)) (hcl : Cls X.K C) (hn : NoAttr X.K C m) (hlen : ns.length < 900) (hi : ns.idxOf? m = some i) (hu : Upd1 ad (.obj cn ns ds) (.obj cn ns (ds.set i d)) cs1 cs2)
    (k : At X M e cs2 fr (wSs X rest D0)) (hs : swapsWith ex (some (.Attribute a m pos')) pos.line X.env = pure false := by rfl) : At X M e cs fr (wSs X (.Assign [.Attribute a m pos'] ex pos :: rest) D0) :=
  at_fld (o := ex) (cs' := cs) hv ho hm hcl hn hlen hu.mem hu (fun x xs l => ⟨xs.set i x, putF_at hi l, by simp [l], fun H r rs => rs.set i r⟩) k hs
/-- for x, y in zip(a, b) -/
def pairs : List D → List D → List D
  | x :: xs, y :: ys => .tup [x, y] :: pairs xs ys
  | _, _ => []
theorem pairs_len : ∀ {xs ys : List D}, (pairs xs ys).length = min xs.length ys.length
  | x :: xs, y :: ys => by simp [pairs, pairs_len (xs := xs) (ys := ys), Nat.succ_min_succ]
  | [], _ => by simp [pairs]
  | _ :: _, [] => by simp [pairs]
theorem pairs_get : ∀ {xs ys : List D} {i : Nat} {d : D}, (pairs xs ys)[i]? = some d → ∃ x y, d = .tup [x, y] ∧ xs[i]? = some x ∧ ys[i]? = some y
  | x :: xs, y :: ys, 0, d, h => by
    simp [pairs] at h
    exact ⟨x, y, h.symm, rfl, rfl⟩
  | x :: xs, y :: ys, i + 1, d, h => by
    simp only [pairs, List.getElem?_cons_succ] at h ⊢
    exact pairs_get h
  | [], _, i, d, h => by simp [pairs] at h
  | _ :: _, [], i, d, h => by simp [pairs] at h
theorem walks_zip {H : Hp} {aa ab : Addr} {xs ys : List V} (na : ¬ M aa) (nb : ¬ M ab) (ha : H aa = some (.lst xs)) (hb : H ab = some (.lst ys)) (ra : Rs X.K X.mg M H xs ds) (rb : Rs X.K X.mg M H ys es') : Walks X M (Itz X.K aa ab) (pairs ds es') H := fun M2 H2 kp mt => by
  have h2 : SqL X.K H2 aa xs := .of (kp aa _ na ha).2
  have h3 : SqL X.K H2 ab ys := .of (kp ab _ nb hb).2
  have l1 := ra.length
  have l2 := rb.length
  refine ⟨fun i d hd => ?_, ⟨xs, ys, h2, h3, ?_⟩⟩
  · obtain ⟨x, y, rfl, hx, hy⟩ := pairs_get hd
    obtain ⟨u, hu, ru⟩ := ra.get hx
    obtain ⟨v, hv, rv⟩ := rb.get hy
    refine ⟨⟨xs, ys, u, v, h2, h3, hu, hv⟩, fun z H3 w => ?_⟩
    obtain ⟨T, x', y', rfl, hT, rfl, w1, w2⟩ := w
    have e1 := w1 xs h2
    have e2 := w2 ys h3
    rw [hu] at e1; rw [hv] at e2
    cases e1; cases e2
    exact ⟨Ext.new hT, r_newt mt hT (.cons (later kp ru) (.cons (later kp rv) .nil))⟩
  · rw [pairs_len, l1, l2]
    omega
theorem ei_zip {elts : List Expr} {kk : Nat} {tpos : Pos} (ha : EE X M e cs a (.lst ds) cs1) (hb : EE X M e cs1 b (.lst es') cs2) (hm : X.mg "zip" = none) (hg : Gl X "zip" := by rfl)
    (hs : starEach [a, b] X.env = (false, eval a X.env) :: starEach [b] X.env := by rfl) (hs2 : starEach [b] X.env = (false, eval b X.env) :: starEach [] X.env := by rfl) (hpl : (backTo pos (starEach [b] X.env)).any (·.1) = false := by rfl) : EI X M e cs (.Tuple elts kk tpos) (.Call (.Name "zip" p) [a, b] [] pos) (pairs ds es') cs2 :=
  ⟨hb.dm.trans ha.dm, _, pi_zip hg hm pa_w hs hpl, fun σ H Q S k => (a_cons ha (a_cons hb a_nil hs2) hs).k σ H _ S fun vs H1 S1 x1 r1 => by
    obtain ⟨v, u, rfl, r1, r2⟩ := rs2 r1
    obtain ⟨aa, xs, rfl, na, h1, ra⟩ := r_lst r1
    obtain ⟨ab, ys, rfl, nb, h2, rb⟩ := r_lst r2
    exact ⟨aa, ab, xs, ys, rfl, .of h1, .of h2, k _ H1 S1 x1 (walks_zip na nb h1 h2 ra rb)⟩⟩
end

/-! ### __init__ -/
section
variable {P : Program} {w : World} {K : PySem.W.Frag} {mg : Str → Option Value} {base : Heap} {ι : Type} {pre : ι → Prop} {args : ι → List D} {x qual n c : Str} {ns : List Str} {dz : ι → List D} {st : Stmt} {f : Addr} {fd : FuncData} {N ps : List Str} {k : Nat}
/-- what the body of an __init__ is shown to do; e0: the names' data when it begins -/
def BodyI (P : Program) (w : World) (K : PySem.W.Frag) (mg : Str → Option Value) (base : Heap) (qual : Str) (st : Stmt) (f : Addr) (N : List Str) (k : Nat) (c : Str) {ι : Type} (pre : ι → Prop) (e0 : ι → List D) (ns : List Str) (dz : ι → List D) : Prop :=
  ∀ (cdv : Value) (A : Around) (outer : List Env) (s : Shared) (H0 : Hp) (E : XK) (i : ι) (M : Addr → Prop) (ad : Addr) (Q : VK), pre i → Room k (A.deeper (PyProof.Rows.envOfC qual (defScope st) s.heap.objs.size f cdv)) →
    (∀ H', (∀ a, M a → H' a ≠ none) → Ext [ad] H0 H' → R K mg M H' (.ref ad) (.obj c ns (dz i)) → Q .non H') → ¬ M ad →
    At (cxOf CX0 P w K mg base N qual (defScope st) f cdv A outer s H0 E).nox (fun a => M a ∨ a = ad) (some (.ref ad) :: (e0 i).map some ++ List.replicate (N.length - ((e0 i).length + 1)) none) [(ad, .obj c [] [])] [([ad], H0)]
      (wSs (cxOf CX0 P w K mg base N qual (defScope st) f cdv A outer s H0 E).nox (defBody st) { nx := fun _ H' => Q .non H', rt := Q })
theorem mkr_of (hC : ∃ C, mg c = some (.ref C) ∧ Mk K C f) (F : Fun K x qual st f fd) (S : FnScope N ps (defScope st)) (hb : Binds K fd ps []) (hl : ∀ i, (args i).length + 1 = ps.length) (body : BodyI P w K mg base qual st f N k c pre args ns dz) : Mkr P w K mg base c (k + 1) (mkSp K mg c pre args ns dz) := by
  obtain ⟨C, hm, hmk⟩ := hC
  have h : FnOk P w K mg base CX0 (k + 1) f fd ps (mkSp K mg c pre args ns dz) := F.ok S (fun vs H Q E h => by
    obtain ⟨M, i, xa, C, dx, rest, _, rfl, _, _, _, _, r, _⟩ := h
    rw [List.length_cons, r.length, hl]) fun cdv A outer s H vs Q E hr h => by
    obtain ⟨M, i, xa, C', dx, rest, hp, rfl, hm', hx, nx, mt, r, kq⟩ := h
    refine ⟨_, pss_w, ?_⟩
    have mt' : ∀ a, M a ∨ a = xa → H a ≠ none := fun a h => by
      rcases h with h | rfl
      · exact mt a h
      · rw [hx]; simp
    have S0 := sit_start (N := N) (c := [(xa, .obj c [] [])]) mt' (.cons (x := .ref xa) (d := .ref xa) (by simp [R]) r) (fun q hq => by
      rcases List.mem_singleton.mp hq with rfl
      exact ⟨.inr rfl, C', dx, [], hm', by simpa using hx, rfl, Rs.nil⟩) (by show (List.map _ [_]).Nodup; simp)
    refine body cdv A outer s H E i M xa Q hp hr kq nx _ _ S0 (fun q hq => ?_) fun q hq a ha => ?_
    · rcases List.mem_singleton.mp hq with rfl
      exact Ext.refl _ _
    · rcases List.mem_singleton.mp hq with rfl
      exact .inl (by simpa using ha)
  have h2 := h.raw (ds := []) (dvs := []) hb .nil
  exact ⟨C, f, hm, hmk, by simpa using h2⟩
/-- __init__(self, a, .., *v) -/
theorem mkr_star {heads parts : ι → List D} {pv : Str} (hC : ∃ C, mg c = some (.ref C) ∧ Mk K C f) (F : Fun K x qual st f fd) (S : FnScope N (ps ++ [pv]) (defScope st))
    (hb : ∀ (kV doc pm : Value) (an : Option Addr) (cdv ct : Value) (us rest : List Value), us.length = ps.length → bindArgs (PySem.W.fnOf x qual (defArgs st) (defBody st) (defScope st) .none kV doc pm an cdv ct) ⟨us ++ rest, []⟩ = (newTuple rest >>= fun t => pure (ps.zip us ++ [(pv, t)])))
    (hl : ∀ i, (heads i).length + 1 = ps.length) (hz : ∀ i, pre i → (parts i).length ≤ 100000) (body : BodyI P w K mg base qual st f N k c pre (fun i => heads i ++ [.tup (parts i)]) ns dz) : Mkr P w K mg base c (k + 1) (mkSp K mg c pre (fun i => heads i ++ parts i) ns dz) := by
  obtain ⟨C, hm, hmk⟩ := hC
  obtain ⟨oc, od, kV, doc, pm, an, cdv, ct, osl, rfl, lk, hcd⟩ := F.ex
  refine ⟨C, f, hm, hmk, ?_⟩
  have h := StX.fn_star (P := P) (w := w) (mg := mg) (base := base) (k := k) (CX := CX0) (sp := fun vs H Q E => ∃ (M : Addr → Prop) (i : ι) (xa C dx : Addr) (rest : List V), pre i ∧ vs = .ref xa :: rest ∧ mg c = some (.ref C) ∧ H xa = some (.ins C dx []) ∧ ¬ M xa ∧ (∀ a, M a → H a ≠ none) ∧ Rs K mg (fun a => M a ∨ a = xa) H rest (heads i ++ [.tup (parts i)]) ∧
    ∀ H', (∀ a, M a → H' a ≠ none) → Ext [xa] H H' → R K mg M H' (.ref xa) (.obj c ns (dz i)) → Q .non H') lk hcd S StX.cxUp_none (hb kV doc pm an cdv ct) fun A outer s H vs Q E hr h => by
    obtain ⟨M, i, xa, C', dx, rest, hp, rfl, hm', hx, nx, mt, r, kq⟩ := h
    have mt' : ∀ a, M a ∨ a = xa → H a ≠ none := fun a h => by
      rcases h with h | rfl
      · exact mt a h
      · rw [hx]; simp
    have S0 := sit_start (N := N) (c := [(xa, .obj c [] [])]) mt' (.cons (x := .ref xa) (d := .ref xa) (by simp [R]) r) (fun q hq => by
      rcases List.mem_singleton.mp hq with rfl
      exact ⟨.inr rfl, C', dx, [], hm', by simpa using hx, rfl, Rs.nil⟩) (by show (List.map _ [_]).Nodup; simp)
    refine ⟨wSs (cxOf CX0 P w K mg base N qual (defScope st) f cdv A outer s H E).nox (defBody st), pss_w.nox, ?_⟩
    refine body cdv A outer s H E i M xa Q hp hr kq nx _ _ S0 (fun q hq => ?_) fun q hq a ha => ?_
    · rcases List.mem_singleton.mp hq with rfl
      exact Ext.refl _ _
    · rcases List.mem_singleton.mp hq with rfl
      exact .inl (by simpa using ha)
  intro A outer s H us vs Q E hr e0 r hsp
  refine h A outer s H us vs Q E hr e0 r ?_
  obtain ⟨M, i, xa, C', dx, rest, hp, rfl, hm', hx, nx, mt, r, kq⟩ := hsp
  have hl' := hl i
  have r1 : Rs K mg (fun a => M a ∨ a = xa) H (rest.take (heads i).length) (heads i) := by simpa using r.take (heads i).length
  have r2 : Rs K mg (fun a => M a ∨ a = xa) H (rest.drop (heads i).length) (parts i) := by simpa using r.drop (heads i).length
  refine ⟨.ref xa :: rest.take (heads i).length, rest.drop (heads i).length, by simp, by simp only [List.length_cons, r1.length]; exact hl', by rw [r2.length]; exact Nat.le_trans (hz i hp) (by decide), fun p hp0 => ?_⟩
  have kp : ∀ a o, H a = some o → upd H p (.tup (rest.drop (heads i).length)) a = some o := fun a o h => by rw [upd_ne (ne_of_none h hp0)]; exact h
  have tr : ∀ a, H a ≠ none → upd H p (.tup (rest.drop (heads i).length)) a ≠ none := fun a h => by
    cases q : H a with
    | none => exact absurd q h
    | some o => rw [kp a o q]; simp
  have npx : p ≠ xa := fun z => by rw [z, hx] at hp0; cases hp0
  refine ⟨M, i, xa, C', dx, rest.take (heads i).length ++ [.ref p], hp, rfl, hm', kp _ _ hx, nx, fun a h => tr a (mt a h), ?_, fun H' mt' xt rr => kq H' mt' (fun a o h n => xt a o (kp a o h) n) rr⟩
  refine (Rs.ext (fun a o _ h => kp a o h) (fun _ n _ => n) _ r1).append (.cons ?_ .nil)
  unfold R
  exact ⟨p, _, rfl, .inl ⟨fun z => z.elim (fun z => mt p z hp0) npx, upd_same⟩, Rs.ext (fun a o _ h => kp a o h) (fun _ n _ => n) _ r2⟩
/-- the end of an __init__ -/
theorem at_endI {X : Cx} {M : Addr → Prop} {e : DE} {H0 : Hp} {D0 : Ends} {fr : Frs} {ad : Addr} {c : Str} {ns : List Str} {ds ds' : List D} (hfr : ([ad], H0) ∈ fr) (hd : ds = ds') (nm : ¬ M ad)
    (kq : ∀ H', (∀ a, M a → H' a ≠ none) → Ext [ad] H0 H' → R X.K X.mg M H' (.ref ad) (.obj c ns ds') → D0.nx [] H') (hq : ∀ σ H, D0.nx [] H → D0.nx σ H) : At X (fun a => M a ∨ a = ad) e [(ad, .obj c ns ds)] fr (wSs X [] D0) := at_nil fun σ H S x l => by
  refine hq σ H (kq H (fun a m => S.mt a (.inl m)) (x _ hfr) ?_)
  obtain ⟨_, C, dx, xs, hm, ho, hl, rs⟩ := S.cel (ad, .obj c ns ds) (by simp)
  subst hd
  unfold R
  exact ⟨ad, C, dx, xs, rfl, nm, hm, ho, hl, Rs.ext (fun a o _ h => h) (fun a n _ z => n (.inl z)) _ rs⟩
/-! methods, properties, static methods -/
theorem mth_of {args : ι → List D} {cs cs' : ι → Cs} {res : ι → D} {m : Str} (hC : ∃ C, mg c = some (.ref C) ∧ Cls K C ∧ Meth K C m f) (F : Fun K x qual st f fd) (S : FnScope N ps (defScope st)) (hb : Binds K fd ps []) (hl : ∀ i, (args i).length = ps.length) (body : Body P w K mg base qual st f N ps.length k pre args cs res cs') : Mth P w K mg base c m (k + 1) (fnSp K mg pre args cs res cs') := by
  obtain ⟨C, hm, hc, hmt⟩ := hC
  exact ⟨C, f, hm, hc, hmt, fnr_of F S hb hl body⟩
theorem prp_of {args : ι → List D} {cs cs' : ι → Cs} {res : ι → D} {m : Str} (hC : ∃ C p, mg c = some (.ref C) ∧ Cls K C ∧ PropOf K C m p f) (F : Fun K x qual st f fd) (S : FnScope N ps (defScope st)) (hb : Binds K fd ps []) (hl : ∀ i, (args i).length = ps.length) (body : Body P w K mg base qual st f N ps.length k pre args cs res cs') : Prp P w K mg base c m (k + 1) (fnSp K mg pre args cs res cs') := by
  obtain ⟨C, p, hm, hc, hp⟩ := hC
  exact ⟨C, p, f, hm, hc, hp, fnr_of F S hb hl body⟩
theorem dun_of {args : ι → List D} {cs cs' : ι → Cs} {res : ι → D} {m : Str} (hC : ∃ C, mg c = some (.ref C) ∧ PySem.W.findIn K (.ref C) m = some (some (.ref f)) ∧ PySem.W.isFn K (.ref f) = true) (F : Fun K x qual st f fd) (S : FnScope N ps (defScope st)) (hb : Binds K fd ps []) (hl : ∀ i, (args i).length = ps.length) (body : Body P w K mg base qual st f N ps.length k pre args cs res cs') : Dun P w K mg base c m (k + 1) (fnSp K mg pre args cs res cs') := by
  obtain ⟨C, hm, h1, h2⟩ := hC
  exact ⟨C, f, hm, h1, h2, fnr_of F S hb hl body⟩
theorem stc_of {args : ι → List D} {cs cs' : ι → Cs} {res : ι → D} {m : Str} (hC : ∃ C mc, mg c = some (.ref C) ∧ ClX.CRead K C mc ∧ CStm K C mc m f) (F : Fun K x qual st f fd) (S : FnScope N ps (defScope st)) (hb : Binds K fd ps []) (hl : ∀ i, (args i).length = ps.length) (body : Body P w K mg base qual st f N ps.length k pre args cs res cs') : Stc P w K mg base c m (k + 1) (fnSp K mg pre args cs res cs') := by
  obtain ⟨C, mc, hm, h1, h2⟩ := hC
  exact ⟨C, mc, f, hm, h1, h2, F.kp, fnr_of F S hb hl body⟩
end
end Od

set_option Elab.async false
set_option linter.all false
set_option maxRecDepth 100000
set_option maxHeartbeats 4000000
/-! Od10: roads that meet again, a handful of tactics' terms -/
namespace Od
open PySem L2
/-- less is known of the names -/
inductive LeD : DE → DE → Prop
  | nil : LeD [] []
  | drop {x : Option D} {e e' : DE} (h : LeD e e') : LeD (none :: e) (x :: e')
  | same {d : D} {e e' : DE} (h : LeD e e') : LeD (some d :: e) (some d :: e')
theorem LeD.get {e e' : DE} (h : LeD e e') : e.length = e'.length ∧ ∀ (i : Nat) (d : D), e[i]? = some (some d) → e'[i]? = some (some d) := by
  induction h with
  | nil => exact ⟨rfl, fun i d q => q⟩
  | drop _ ih =>
    refine ⟨by simp [ih.1], fun i d q => ?_⟩
    cases i with
    | zero => simp at q
    | succ i => simpa using ih.2 i d (by simpa using q)
  | same _ ih =>
    refine ⟨by simp [ih.1], fun i d q => ?_⟩
    cases i with
    | zero => simpa using q
    | succ i => simpa using ih.2 i d (by simpa using q)
theorem LeD.refl : ∀ {e : DE}, LeD e e
  | [] => .nil
  | none :: _ => .drop LeD.refl
  | some _ :: _ => .same LeD.refl
section
variable {X : Cx} {M : Addr → Prop} {e e1 e2 : DE} {cs cs1 cs2 : Cs} {fr : Frs} {D0 : Ends} {pos p pos' : Pos} {a b c ex : Expr} {rest st st2 : List Stmt} {d x y z : D} {ds : List D} {n : Str} {P : L2.St → Hp → Prop}
theorem Sit.le {K : PySem.W.Frag} {mg : Str → Option Value} {σ : L2.St} {H : Hp} (S : Sit K mg M σ H e cs) (h : LeD e2 e) : Sit K mg M σ H e2 cs where
  mt := S.mt
  len := S.len.trans h.get.1.symm
  env := fun i d q => S.env i d (h.get.2 i d q)
  cel := S.cel
  nd := S.nd
theorem at_go (h : At X M e2 cs2 fr P) (hl : LeD e2 e) (hc : cs = cs2) : At X M e cs fr P := fun σ H S x l => by
  subst hc
  exact h σ H (S.le hl) x l
/-- if c: st else: st2, both ways to the same place -/
theorem at_ifT {b0 : Bool} (e2 : DE) (cs2 : Cs) (hc : ET X M e cs c b0 cs1) (ht : ∀ nx, At X M e2 cs2 fr nx → b0 = true → At X M e cs1 fr (wSs X st { D0 with nx := nx })) (hf : ∀ nx, At X M e2 cs2 fr nx → b0 = false → At X M e cs1 fr (wSs X st2 { D0 with nx := nx }))
    (k : At X M e2 cs2 fr (wSs X rest D0)) : At X M e cs fr (wSs X (.If c st st2 pos :: rest) D0) := at_if hc (ht _ k) (hf _ k)
theorem at_eqE (h : At X M e2 cs fr P) (he : e = e2) : At X M e cs fr P := he ▸ h
theorem at_eqC (h : At X M e cs2 fr P) (he : cs = cs2) : At X M e cs fr P := he ▸ h
end
end Od

set_option Elab.async false
set_option linter.all false
set_option maxRecDepth 100000
set_option maxHeartbeats 4000000
/-! Od11: comprehensions over lists of known shape -/
namespace Od
open PySem L2
section
variable {X : Cx} {M M' : Addr → Prop} {e : DE} {cs cs1 cs2 cs3 : Cs} {pos p pos' apos : Pos} {tg a b c ex o : Expr} {es : List Expr} {d x y z : D} {ds : List D} {n m : Str} {k j : Nat} {α : Type}
theorem outs_mapM (xs : List α) (f : α → D) : outs (fun _ => true) (fun i => ((xs[i]?).map f).getD .non) xs.length = xs.map f := by
  unfold outs
  rw [List.filter_eq_self.mpr fun _ _ => rfl]
  apply List.ext_getElem?
  intro i
  by_cases hi : i < xs.length
  · simp [hi]
  · simp [hi]
theorem rev_ind {p : List α → Prop} (h0 : p []) (h1 : ∀ l a, p l → p (l ++ [a])) : ∀ l, p l := by
  intro l
  have h : ∀ r : List α, p r.reverse := fun r => by
    induction r with
    | nil => exact h0
    | cons a r ih => rw [List.reverse_cons]; exact h1 _ _ ih
  simpa using h l.reverse
theorem outs_filM (xs : List α) (q : α → Bool) (f : α → D) : outs (fun i => ((xs[i]?).map q).getD false) (fun i => ((xs[i]?).map f).getD .non) xs.length = (xs.filter q).map f := by
  induction xs using rev_ind with
  | h0 => rfl
  | h1 l a ih =>
    have h1 : ∀ i, i < l.length → (l ++ [a])[i]? = l[i]? := fun i hi => List.getElem?_append_left hi
    have h2 : (l ++ [a])[l.length]? = some a := by simp
    have e : outs (fun i => (((l ++ [a])[i]?).map q).getD false) (fun i => (((l ++ [a])[i]?).map f).getD .non) l.length = outs (fun i => ((l[i]?).map q).getD false) (fun i => ((l[i]?).map f).getD .non) l.length := by
      unfold outs
      have hf : (List.range l.length).filter (fun i => (((l ++ [a])[i]?).map q).getD false) = (List.range l.length).filter (fun i => ((l[i]?).map q).getD false) := by
        apply List.filter_congr
        intro i hi
        rw [h1 i (List.mem_range.mp hi)]
      rw [hf]
      apply List.map_congr_left
      intro i hi
      rw [h1 i (List.mem_range.mp (List.mem_filter.mp hi).1)]
    rw [List.length_append]
    show outs _ _ (l.length + 1) = _
    by_cases hq : q a = true
    · rw [outs_yes (by simp [h2, hq]), e, ih, h2]
      simp [hq]
    · rw [outs_no (by simp [h2, hq]), e, ih]
      simp [hq]
/-- [elt for tg in iter], what is walked of known shape -/
theorem e_lcM {scope : Scope} (own : List (Str × Nat)) {iter elt : Expr} {ef : D → DE} {P : D → Prop} (xs : List α) (g f : α → D) (hi : EI X M e cs tg iter (xs.map g) cs1) (ht : CTg X scope (own.map (·.2)) e tg ef P) (hP : ∀ x ∈ xs, P (g x)) (hn : xs.length ≤ 100000)
    (turn : ∀ x ∈ xs, ∀ (M' : Addr → Prop), (∀ a, M a → M' a) → ∀ (s : Shared) (H : Hp) (C : Addr) (cl : List (Str × Addr)) (fp : List Addr), EE (blkOf X scope s H C cl fp) M' (ef (g x)) cs1 elt (f x) cs1)
    (ok : BlkOk X.N X.env.scope scope own) (hN : X.N.Nodup) (hc : X.calm = true := by rfl) (hs : ∀ x, foldedSetIterable iter X.env x = pure x := by intro _; rfl) :
    EE X M e cs (.ListComp elt [⟨tg, iter, [], 0⟩] scope pos) (.lst (xs.map f)) cs1 where
  dm := hi.dm
  k := fun σ H Q S k => by
    have at_ : ∀ (i : Nat) (d : D), (xs.map g)[i]? = some d → ∃ x, xs[i]? = some x ∧ x ∈ xs ∧ d = g x := fun i d h => by
      rw [List.getElem?_map] at h
      cases q : xs[i]? with
      | none => rw [q] at h; cases h
      | some x => rw [q] at h; exact ⟨x, rfl, List.mem_of_getElem? q, (Option.some.inj h).symm⟩
    obtain ⟨t, h1, h2, _⟩ := lc_core' (pos := pos) (elt := elt) (ifs := []) hi ht (fun d hd => by
      obtain ⟨x, hx, rfl⟩ := List.mem_map.mp hd
      exact hP x hx) (fun _ => cs1) (fun _ => cs1) (fun _ => true) (fun i => ((xs[i]?).map f).getD .non) rfl (fun _ => rfl) (fun _ => rfl) (by simpa using hn) tYes (fun _ _ _ _ _ => pts_nil) (fun i d hd M' hM σ H Q S k => k H S (Ext.refl _ _))
      (fun i d hd _ M' hM s H C cl fp => by
        obtain ⟨x, q, hx, rfl⟩ := at_ i d hd
        rw [q]
        exact turn x hx M' hM s H C cl fp) (fun i d hd h => by cases h) hc hN ok hs
    refine we_of h1 (h2 σ H Q S fun v H' S' x' r' => k v H' S' x' ?_)
    rw [List.length_map, outs_mapM] at r'
    exact r'
/-- [elt for tg in iter if c] -/
theorem e_lcFM {scope : Scope} (own : List (Str × Nat)) {iter elt c : Expr} {ef : D → DE} {P : D → Prop} (xs : List α) (g : α → D) (q : α → Bool) (f : α → D) (hi : EI X M e cs tg iter (xs.map g) cs1) (ht : CTg X scope (own.map (·.2)) e tg ef P) (hP : ∀ x ∈ xs, P (g x)) (hn : xs.length ≤ 100000)
    (test : ∀ x ∈ xs, ∀ (M' : Addr → Prop), (∀ a, M a → M' a) → ∀ (s : Shared) (H : Hp) (C : Addr) (cl : List (Str × Addr)) (fp : List Addr), ET (blkOf X scope s H C cl fp) M' (ef (g x)) cs1 c (q x) cs1)
    (turn : ∀ x ∈ xs, q x = true → ∀ (M' : Addr → Prop), (∀ a, M a → M' a) → ∀ (s : Shared) (H : Hp) (C : Addr) (cl : List (Str × Addr)) (fp : List Addr), EE (blkOf X scope s H C cl fp) M' (ef (g x)) cs1 elt (f x) cs1)
    (ok : BlkOk X.N X.env.scope scope own) (hN : X.N.Nodup) (hc : X.calm = true := by rfl) (hs : ∀ x, foldedSetIterable iter X.env x = pure x := by intro _; rfl) :
    EE X M e cs (.ListComp elt [⟨tg, iter, [c], 0⟩] scope pos) (.lst ((xs.filter q).map f)) cs1 where
  dm := hi.dm
  k := fun σ H Q S k => by
    have at_ : ∀ (i : Nat) (d : D), (xs.map g)[i]? = some d → ∃ x, xs[i]? = some x ∧ x ∈ xs ∧ d = g x := fun i d h => by
      rw [List.getElem?_map] at h
      cases q : xs[i]? with
      | none => rw [q] at h; cases h
      | some x => rw [q] at h; exact ⟨x, rfl, List.mem_of_getElem? q, (Option.some.inj h).symm⟩
    obtain ⟨t, h1, h2, _⟩ := lc_core' (pos := pos) (elt := elt) (ifs := [c]) hi ht (fun d hd => by
      obtain ⟨x, hx, rfl⟩ := List.mem_map.mp hd
      exact hP x hx) (fun _ => cs1) (fun _ => cs1) (fun i => ((xs[i]?).map q).getD false) (fun i => ((xs[i]?).map f).getD .non) rfl (fun _ => rfl) (fun _ => rfl) (by simpa using hn)
      (fun σ H Q => ∀ (s : Shared) (H0 : Hp) (C : Addr) (cl : List (Str × Addr)) (fp : List Addr), wT (blkOf X scope s H0 C cl fp) c σ H Q) (fun s H C cl fp => pts_one ⟨fun pins s1 σ H1 Q I h => h s H C cl fp pins s1 I⟩)
      (fun i d hd M' hM σ H Q S k s0 H0 C cl fp => by
        obtain ⟨x, q1, hx, rfl⟩ := at_ i d hd
        simp only [q1, Option.map_some, Option.getD_some] at k
        exact (test x hx M' hM s0 H0 C cl fp).k σ H Q S k)
      (fun i d hd hk M' hM s H C cl fp => by
        obtain ⟨x, q1, hx, rfl⟩ := at_ i d hd
        simp only [q1, Option.map_some, Option.getD_some] at hk ⊢
        exact turn x hx hk M' hM s H C cl fp) (fun i d hd h => rfl) hc hN ok hs
    refine we_of h1 (h2 σ H Q S fun v H' S' x' r' => k v H' S' x' ?_)
    rw [List.length_map, outs_filM] at r'
    exact r'
theorem e_join {s : Str} {ts : List Str} (h : (ts.map (·.length)).sum + ts.length * s.length ≤ 16777216) (ho : EE X M e cs o (.str s) cs1) (ha : EE X M e cs1 a (.lst (ts.map D.str)) cs2)
    (h1 : ∀ r, MtR X "str.join" r → PE X (.Call (.Attribute o "join" apos) [a] [] pos) (tM1 r (wE X o) (wE X a)) := by intro r hr; exact pe_m1 PySem.F.slot_str_join PySem.F.type_str_join hr pe_w pe_w) : EE X M e cs (.Call (.Attribute o "join" apos) [a] [] pos) (.str (Txt.join s ts)) cs2 :=
  e_strm (sd_joinL h) ho ha PySem.F.slot_str_join PySem.F.type_str_join h1
end
end Od

set_option Elab.async false
set_option linter.all false
set_option maxRecDepth 100000
set_option maxHeartbeats 4000000
/-! Od12: defs that hand out a new list, which its caller may change -/
namespace Od
open PySem L2
/-- called with args: a new list of ds -/
def fnSpN (K : PySem.W.Frag) (mg : Str → Option Value) {ι : Type} (pre : ι → Prop) (args : ι → List D) (ds : ι → List D) : Sp := fun vs H Q _ =>
  ∃ (M : Addr → Prop) (i : ι), pre i ∧ (∀ a, M a → H a ≠ none) ∧ Rs K mg M H vs (args i) ∧
    ∀ p H', H p = none → (∀ a, M a → H' a ≠ none) → Ext [] H H' → (∃ xs, H' p = some (.lst xs) ∧ Rs K mg (fun a => M a ∨ a = p) H' xs (ds i)) → Q (.ref p) H'
section
variable {P : Program} {w : World} {K : PySem.W.Frag} {mg : Str → Option Value} {base : Heap} {ι : Type} {pre : ι → Prop} {args ds : ι → List D} {x qual n : Str} {st : Stmt} {f : Addr} {fd : FuncData} {N ps : List Str} {k : Nat}
theorem dfnN_of (F : Fun K x qual st f fd) (hm : mg n = some (.ref f)) (S : FnScope N ps (defScope st)) (hb : Binds K fd ps []) (hl : ∀ i, (args i).length = ps.length)
    (body : ∀ (cdv : Value) (A : Around) (outer : List Env) (s : Shared) (H0 : Hp) (E : XK) (i : ι) (M : Addr → Prop) (Q : VK), pre i → Room k (A.deeper (PyProof.Rows.envOfC qual (defScope st) s.heap.objs.size f cdv)) →
      (∀ p H', H0 p = none → (∀ a, M a → H' a ≠ none) → Ext [] H0 H' → (∃ xs, H' p = some (.lst xs) ∧ Rs K mg (fun a => M a ∨ a = p) H' xs (ds i)) → Q (.ref p) H') →
      At (cxOf CX0 P w K mg base N qual (defScope st) f cdv A outer s H0 E).nox M ((args i).map some ++ List.replicate (N.length - (args i).length) none) [] [([], H0)]
        (wSs (cxOf CX0 P w K mg base N qual (defScope st) f cdv A outer s H0 E).nox (defBody st) { nx := fun _ H' => Q .non H', rt := Q })) : Dfn P w K mg base n (k + 1) (fnSpN K mg pre args ds) := by
  have h : FnOk P w K mg base CX0 (k + 1) f fd ps (fnSpN K mg pre args ds) := F.ok S (fun vs H Q E h => by
    obtain ⟨M, i, _, _, r, _⟩ := h
    rw [r.length, hl]) fun cdv A outer s H vs Q E hr h => by
    obtain ⟨M, i, hp, mt, r, kq⟩ := h
    refine ⟨_, pss_w, ?_⟩
    refine body cdv A outer s H E i M Q hp hr kq _ _ (sit_start mt r (by simp) (by simp)) (fun q hq => ?_) fun q hq a ha => by simp at ha
    rcases List.mem_singleton.mp hq with rfl
    exact Ext.refl _ _
  have h2 := h.raw (ds := []) (dvs := []) hb .nil
  exact ⟨f, hm, F.kp, by simpa using h2⟩
end
section
variable {X : Cx} {M : Addr → Prop} {e : DE} {cs cs1 : Cs} {fr : Frs} {D0 : Ends} {pos p pos' : Pos} {a ex : Expr} {es : List Expr} {rest : List Stmt} {d : D} {ds : List D} {n x : Str} {k : Nat}
/-- return [..], the new list -/
theorem at_endN {H0 : Hp} {ds' : List D} (ha : EA X M e [] es ds []) (hd : ds = ds') (hl : ds.length ≤ 100000) (hfr : ([], H0) ∈ fr)
    (kq : ∀ p H', H0 p = none → (∀ a, M a → H' a ≠ none) → Ext [] H0 H' → (∃ xs, H' p = some (.lst xs) ∧ Rs X.K X.mg (fun a => M a ∨ a = p) H' xs ds') → D0.rt (.ref p) H') : At X M e [] fr (wSs X (.Return (some (.List es pos')) pos :: rest) D0) := fun σ H S x l =>
  wss_of (pss_cons (ps_ret (pe_lst pa_w)) pss_w) (ha.k σ H _ S fun vs H1 S1 x1 r1 => ⟨by rw [r1.length]; exact Nat.le_trans hl (by decide), fun q hq => by
    have x2 : Ext [] H0 H1 := (x _ hfr).trans x1
    have hn : H0 q = none := by
      cases z : H0 q with
      | none => rfl
      | some o => rw [x2 q o z (by simp)] at hq; cases hq
    refine kq q _ hn (fun b mb => ?_) (x2.trans (Ext.new hq)) ⟨vs, upd_same, ?_⟩
    · by_cases h : b = q
      · subst h; rw [upd_same]; simp
      · rw [upd_ne h]; exact S1.mt b mb
    · subst hd
      exact Rs.ext (fun b o _ h => by rw [upd_ne (ne_of_none h hq)]; exact h) (fun b n h z => z.elim n fun z => h (z ▸ hq)) _ r1⟩)
/-- x = f(..), a new list that may change from here on -/
theorem at_setN {ι : Type} {pre : ι → Prop} {args dz : ι → List D} {dx : List D} (i : Nat) (F : Dfn X.prog X.w X.K X.mg X.base n k (fnSpN X.K X.mg pre args dz)) (hr : Room k X.A) (ha : EA X M e cs (a :: es) dx cs) (j : ι) (hp : pre j) (hds : dx = args j)
    (kk : ∀ q, At X (fun b => M b ∨ b = q) (e.set i (some (.ref q))) ((q, .lst (dz j)) :: cs) fr (wSs X rest D0)) (hN : X.N.Nodup) (hi : X.N[i]? = some x := by rfl) (hx : Loc X.env.scope x := by first | exact .inl rfl | exact .inr rfl) (hg : Gl X n := by rfl)
    (hs : swapsWith (.Call (.Name n p) (a :: es) [] pos) (some (.Name x pos')) pos.line X.env = pure false := by rfl) (hf : X.fn x = true ∨ X.env.scope.names.lookup x = some .local := by first | exact .inl rfl | exact .inr rfl)
    (hdb : (n == ("__debug__" : Str)) = false := by decide) (he : starEach (a :: es) X.env = (false, eval a X.env) :: starEach es X.env := by rfl) (hpl : (backTo pos (starEach es X.env)).any (·.1) = false := by rfl)
    {spos : Pos} (hs2 : swapsWith (.Call (.Name n p) (a :: es) [] pos) (some (.Name x pos')) spos.line X.env = pure false := by rfl) : At X M e cs fr (wSs X (.Assign [.Name x pos'] (.Call (.Name n p) (a :: es) [] pos) spos :: rest) D0) := fun σ H S xx l => by
  obtain ⟨f, hm, hk, F⟩ := F.ex
  refine wss_of (pss_cons (ps_set hN hi hx (pe_callR (E := E0) F hr hg hm hk pass0 pa_w hdb he hpl) hs2 hf) pss_w) (ha.k σ H _ S fun vs H1 S1 x1 r1 => ?_)
  subst hds
  refine ⟨M, j, hp, S1.mt, r1, fun q H' hq mt xt ⟨xs, hxs, rs⟩ => ?_⟩
  have kp : ∀ b o, H1 b = some o → H' b = some o := fun b o h => xt b o h (by simp)
  have nm : ∀ b, H1 b ≠ none → b ≠ q := fun b h z => h (z ▸ hq)
  have mr : ∀ b, ¬ M b → H1 b ≠ none → ¬ (M b ∨ b = q) := fun b h1 h2 z => z.elim h1 (nm b h2)
  have S2 : Sit X.K X.mg (fun b => M b ∨ b = q) σ H' e ((q, .lst (dz j)) :: cs) := by
    refine ⟨fun b mb => ?_, S1.len, fun i d hd => ?_, fun c hc => ?_, ?_⟩
    · rcases mb with mb | rfl
      · exact mt b mb
      · rw [hxs]; simp
    · obtain ⟨v, e1, r⟩ := S1.env i d hd
      exact ⟨v, e1, R.ext (fun b o _ h => kp b o h) mr _ r⟩
    · rcases List.mem_cons.mp hc with rfl | hc
      · exact ⟨.inr rfl, xs, hxs, rs⟩
      · obtain ⟨m, c2⟩ := S1.cel c hc
        exact ⟨.inl m, c2.ext (fun b o _ h => kp b o h) mr fun o h => kp _ o h⟩
    · show (q :: cs.map (·.1)).Nodup
      refine List.nodup_cons.mpr ⟨fun z => ?_, S1.nd⟩
      obtain ⟨c, hc, e⟩ := List.mem_map.mp z
      exact (S1.cel c hc).2.ne (e ▸ hq)
  refine kk q _ H' (S2.set i (by simp [R])) ?_ ?_
  · exact ext_on (ext_on xx l x1) l (xt.mono (by simp))
  · intro f0 hf0 b hb
    rcases List.mem_cons.mp hb with rfl | hb
    · by_cases h : b ∈ f0.1
      · exact .inl h
      · right
        cases z : f0.2 b with
        | none => rfl
        | some o =>
          have := (ext_on xx l x1) f0 hf0 b o z h
          rw [this] at hq; cases hq
    · exact l f0 hf0 b hb
end
section
variable {P : Program} {w : World} {K : PySem.W.Frag} {mg : Str → Option Value} {base : Heap} {ι : Type} {pre : ι → Prop} {args : ι → List D} {cs cs' : ι → Cs} {res : ι → D} {x qual n : Str} {st : Stmt} {f : Addr} {fd : FuncData} {N ps : List Str} {k : Nat}
theorem fnok_of (F : Fun K x qual st f fd) (S : FnScope N ps (defScope st)) (hl : ∀ i, (args i).length = ps.length) (body : Body P w K mg base qual st f N ps.length k pre args cs res cs') : FnOk P w K mg base CX0 (k + 1) f fd ps (fnSp K mg pre args cs res cs') :=
  F.ok S (fun vs H Q E h => by
    obtain ⟨M, i, _, _, r, _⟩ := h
    rw [r.length, hl]) fun cdv A outer s H vs Q E hr h => by
    obtain ⟨M, i, hp, mt, r, hc, nd, kq⟩ := h
    refine ⟨_, pss_w, ?_⟩
    refine body cdv A outer s H E i M Q hp hr kq _ _ (sit_start mt r hc nd) (fun q hq => ?_) fun q hq a ha => ?_
    · rcases List.mem_singleton.mp hq with rfl
      exact Ext.refl _ _
    · rcases List.mem_singleton.mp hq with rfl
      exact .inl ha
end
end Od

set_option Elab.async false
set_option linter.all false
set_option maxRecDepth 100000
set_option maxHeartbeats 4000000
/-! Od13: operators of two own instances, !=, str, repr; instances that change: made, asked, stored -/
namespace PySem.W
open PySem PySem.Spec PySem.Calls PyProof.Rows
section
variable {prog : Program} {w : World} {M : Model} {A : Around} {E : Value → Shared → Prop} {s : Shared} {K : Frag} {x y C L f : Addr} {h₀ : Heap} {m : Str → Option Value} {ox oy : Obj} {od od2 : Option Obj}
theorem odBin {op : Operator} {Q : Value → Shared → Prop} (F : Fr h₀ L s.heap m) (X₀ : K.In h₀) (I : InstAt s.heap x ox C od) (I2 : InstAt s.heap y oy C od2) (hc : selfFirst K C = true) (hs : findIn K (.ref C) (PySem.dunder op.info.2) = some (some (.ref f))) (hf : isFn K (.ref f) = true)
    (h : wpAny (model prog w) A (call (.ref f) [.ref x, .ref y]) (CmpBack Q) E s) : wpAny (model prog w) A (binaryOp op (.ref x) (.ref y)) Q E s := by
  have X := X₀.keeps F.keep; obtain ⟨cd, rest, hcd, hm⟩ := ksp_first hc
  rcases hi : op.info with ⟨sym, nm'⟩; rw [hi] at hs; dsimp only at hs
  have one := ksp_try X I hs hf h; obtain ⟨hh, g, d, tt, os⟩ := s
  have La : Looks (model prog w) hh (typeOf (.ref x)) (.ref C) := I.type; have Lb : Looks (model prog w) hh (typeOf (.ref y)) (.ref C) := I2.type
  have Lc : Looks (model prog w) hh (fillsNumberSlot (.ref C) nm') true := fills_K X hcd hm hs
  simp only [binaryOp, hi]; refine wpAny_holding (wpAny_bind ?_); unfold binaryOp1
  refine wpAny_bind (La.at (wpAny_bind (Lb.at (wpAny_bind (Lc.at ?_)))))
  have he : (Value.ref C == Value.ref C) = true := by simp
  simp only [he, if_true, Bool.and_false, Bool.false_and, Bool.false_eq_true, if_false, Bool.not_false, Bool.true_and]
  ksp_lk
  refine wpAny_mono one (fun r s' hr' => ?_) fun _ _ e => e
  obtain ⟨v, rfl, hq⟩ := hr'
  ksp_lk
  exact hq
open Builtin in
theorem odNe {b : Value} {Q : Value → Shared → Prop} (hu : A.units < cLine) (hu1 : A.in1.units < cLine) (Fh : Fr h₀ L s.heap m) (X₀ : K.In h₀) (I : InstAt s.heap x ox C od) (hb : Looks (model prog w) s.heap (typeOf b) (.ref C)) (hm : mroIn K C (.type "object") = some true)
    (hs : findIn K (.ref C) "__ne__" = some (some (.builtin "object.__ne__"))) (he : findIn K (.ref C) "__eq__" = some (some (.ref f))) (hf : isFn K (.ref f) = true)
    (h : wpAny (model prog w) A.in1 (call (.ref f) [.ref x, b]) (fun v s' => ∃ r, v = .bool r ∧ Q (.bool (!r)) s') E s) : wpAny (model prog w) A (richCompare .NotEq (.ref x) b) Q E s := by
  have X := X₀.keeps Fh.keep
  have cal : wpAny (model prog w) A (call (.builtin "object.__ne__") [.ref x, b]) (fun v s' => ∃ r, v = .bool r ∧ Q (.bool r) s') E s := by
    refine wpAny_call (codeAny_call_builtin F.cmp_object.ne.plain F.cmpEntry_ne (check_slot (i := "object.__ne__") (owner := "object") (n := "__ne__") F.cmpKind_ne F.cmpSplit_ne (I.type.andThen (looks_mroIn X hm)) (F.cmpArgs_ne _ _) ?_))
    unfold Builtin.«object.__ne__»; refine wpAny_bind (m := slotArgs "__ne__" 1 _) (wpAny_pure ?_); refine wpAny_bind (m := cRoomFor _ _) (wpAny_cRoomFor hu1 ?_)
    refine wpAny_bind (m := callSpecialIfBound? (.ref x) (Str.ofString "__eq__") _) (ifBound_K X I he hf (wpAny_mono h (fun v s' hq => ?_) fun _ _ y => y))
    obtain ⟨r, rfl, q⟩ := hq
    refine wpAny_bind (wpAny_truthy_bool (wpAny_pure ⟨_, rfl, q⟩))
  have one : wpAny (model prog w) A (tryCompare (.ref x) "__ne__" b) (fun r s' => ∃ v, r = some v ∧ Q v s') E s := by
    unfold tryCompare; refine wpAny_bind ?_; simp only [callSpecialIfBound?, bindSpecialIfBound?]
    refine wpAny_holding (wpAny_bind (wpAny_bind (wpAny_bind (I.type.here ((looks_findIn X hs).here ?_)))))
    simp only [F.cmp_object.ne.bind]
    refine wpAny_bind (wpAny_askSetting (wpAny_ite ?_))
    have fin : wpAny (model prog w) A (call (.builtin "object.__ne__") ([.ref x] ++ [b]) >>= fun v => pure (some v)) (fun r s' => wpAny (model prog w) A (match r with | some .notImplemented | none => pure none | some v => pure (some v)) (fun r s' => ∃ v, r = some v ∧ Q v s') E s') E s :=
      wpAny_bind (wpAny_mono cal (fun v s' hq => by obtain ⟨r, rfl, q⟩ := hq; exact wpAny_pure (wpAny_pure ⟨_, rfl, q⟩)) fun _ _ z => z)
    split
    · exact wpAny_bind (wpAny_pure (wpAny_pure (by exact fin)))
    · exact wpAny_tryCatch (wpAny_bind (wpAny_pure (wpAny_pure (by exact fin))))
  unfold richCompare; simp only [oneThing_ref]; refine wpAny_holding (wpAny_bind (wpAny_cRoomFor hu ?_)); refine wpAny_bind (I.type.here (wpAny_bind (hb.here ?_)))
  have e : (Value.ref C != Value.ref C) = false := by simp
  simp only [e, Bool.false_eq_true, if_false]
  refine wpAny_bind (wpAny_pure ?_); simp only [Bool.false_eq_true, if_false]
  refine wpAny_bind (m := tryCompare _ _ _) (wpAny_mono one (fun r s' z => ?_) fun _ _ e => e)
  obtain ⟨v, rfl, hq⟩ := z
  exact wpAny_pure hq
end
end PySem.W

set_option Elab.async false
set_option linter.all false
set_option maxRecDepth 100000
set_option maxHeartbeats 4000000
namespace Od
open PySem L2 TL PySem.Spec
section
variable {X : Cx} {M : Addr → Prop} {e : DE} {cs cs1 cs2 cs3 : Cs} {fr : Frs} {D0 : Ends} {pos p pos' apos : Pos} {tg a b c ex o : Expr} {es : List Expr} {rest : List Stmt} {d x y z : D} {ds es' : List D} {n m : Str} {k j : Nat}
variable {ι : Type} {pre : ι → Prop} {args : ι → List D} {cz cz' : ι → Cs} {res : ι → D}
/-- a op b, two instances of one class with an own def for op -/
theorem bd_own {op : Operator} {cn : Str} {ns : List Str} {nm : Str} (F : Dun X.prog X.w X.K X.mg X.base cn nm k (puSp X.K X.mg pre args res)) (hsf : ∀ C, X.mg cn = some (.ref C) → PySem.W.selfFirst X.K C = true) (hr : Room k X.A) (i : ι) (hp : pre i) (hds : [.obj cn ns ds, .obj cn ns es'] = args i) (hi : PySem.dunder op.info.2 = nm := by rfl) : BinD X op (.obj cn ns ds) (.obj cn ns es') (res i) := by
  subst hi
  obtain ⟨C, f, hm, hf, hfn, F⟩ := F.ex
  have ur : OpR X (binaryOp op) (fun x y H Q => ∃ a dx fs b dy gs, x = .ref a ∧ y = .ref b ∧ H a = some (.ins C dx fs) ∧ H b = some (.ins C dy gs) ∧ puSp X.K X.mg pre args res [.ref a, .ref b] H Q E0) := by
    intro pins s σ H x y v u Q I rx ry h
    obtain ⟨a, dx, fs, b, dy, gs, rfl, rfl, ea, eb, q⟩ := h
    cases (show v = Value.ref a from rx)
    cases (show u = Value.ref b from ry)
    obtain ⟨mA, O, _, _, _, _⟩ := ins_get I.hok ea
    obtain ⟨od, J, _⟩ := O.look
    obtain ⟨mB, O2, _, _, _, _⟩ := ins_get I.hok eb
    obtain ⟨od2, J2, _⟩ := O2.look
    obtain ⟨m, hF⟩ := I.fr
    refine PySem.W.odBin hF I.ok.mod.kin J J2 (hsf C hm) hf hfn ?_
    refine wpAny_mono (wpAny_call (run_fnR (us := [.ref a, .ref b]) (vs := [.ref a, .ref b]) F hr pass0 I (.cons rfl (.cons rfl .nil)) q)) (fun w s' z => ?_) fun _ _ x => x
    obtain ⟨z', H', I', rz, qz⟩ := z
    exact SlX.cmpback rz ⟨z', H', I', rz, qz⟩
  refine ⟨_, ur, fun M H v u Q mt hv hu k => ?_⟩
  have hv0 := hv
  have hu0 := hu
  obtain ⟨ad, C', dx, xs, rfl, _, hm', ho, hl, rs⟩ := r_obj hv
  rw [hm] at hm'; cases hm'
  obtain ⟨ad2, C', dx2, xs2, rfl, _, hm', ho2, hl2, rs2⟩ := r_obj hu
  rw [hm] at hm'; cases hm'
  exact ⟨ad, dx, _, ad2, dx2, _, rfl, rfl, ho, ho2, pu_use i hp mt (by rw [← hds]; exact .cons hv0 (.cons hu0 .nil)) k⟩
/-- a != b by an own __eq__ -/
structure NeF (K : PySem.W.Frag) (C : Addr) : Prop where
  ne : PySem.W.findIn K (.ref C) "__ne__" = some (some (.builtin "object.__ne__"))
  hm : PySem.W.mroIn K C (.type "object") = some true
theorem cd_neOwn {cn : Str} {ns : List Str} {b0 : Bool} (F : Dun X.prog X.w X.K X.mg X.base cn "__eq__" k (puSp X.K X.mg pre args res)) (hn : ∀ C, X.mg cn = some (.ref C) → NeF X.K C) (hr : Room (k + 1) X.A) (i : ι) (hp : pre i) (hds : [.obj cn ns ds, .obj cn ns es'] = args i) (hb : res i = .bl b0) : CmpD X .NotEq (.obj cn ns ds) (.obj cn ns es') (!b0) := by
  obtain ⟨C, f, hm, hf, hfn, F⟩ := F.ex
  have ur : OpR X (compareOp .NotEq) (fun x y H Q => ∃ a dx fs b dy gs, x = .ref a ∧ y = .ref b ∧ H a = some (.ins C dx fs) ∧ H b = some (.ins C dy gs) ∧ puSp X.K X.mg pre args res [.ref a, .ref b] H (fun v H' => ∃ r, v = .bl r ∧ Q (.bl (!r)) H') E0) := by
    intro pins s σ H x y v u Q I rx ry h
    obtain ⟨a, dx, fs, b, dy, gs, rfl, rfl, ea, eb, q⟩ := h
    cases (show v = Value.ref a from rx)
    cases (show u = Value.ref b from ry)
    obtain ⟨mA, O, _, _, _, _⟩ := ins_get I.hok ea
    obtain ⟨od, J, _⟩ := O.look
    obtain ⟨mB, O2, _, _, _, _⟩ := ins_get I.hok eb
    obtain ⟨od2, J2, _⟩ := O2.look
    obtain ⟨m, hF⟩ := I.fr
    have hr1 : Room k X.A.in1 := hr.in1
    show wpAny _ _ (richCompare .NotEq (.ref a) (.ref b)) _ _ _
    refine PySem.W.odNe hr.units0 hr1.units0 hF I.ok.mod.kin J J2.type (hn C hm).hm (hn C hm).ne hf hfn ?_
    refine wpAny_mono (wpAny_call (SlX.run_at (us := [.ref a, .ref b]) (ws := [.ref a, .ref b]) F hr1 I.env0.in1 pass0 I (.cons rfl (.cons rfl .nil)) q)) (fun w s' z => ?_) fun _ _ x => x
    obtain ⟨z', H', I', rz, r, rfl, qz⟩ := z
    cases (show w = Value.bool r from rz)
    exact ⟨r, rfl, .bl (!r), H', I', rfl, qz⟩
  refine ⟨_, ur, fun M H v u Q mt hv hu k => ?_⟩
  have hv0 := hv
  have hu0 := hu
  obtain ⟨ad, C', dx, xs, rfl, _, hm', ho, hl, rs⟩ := r_obj hv
  rw [hm] at hm'; cases hm'
  obtain ⟨ad2, C', dx2, xs2, rfl, _, hm', ho2, hl2, rs2⟩ := r_obj hu
  rw [hm] at hm'; cases hm'
  refine ⟨ad, dx, _, ad2, dx2, _, rfl, rfl, ho, ho2, pu_use i hp mt (by rw [← hds]; exact .cons hv0 (.cons hu0 .nil)) fun v H' x r => ?_⟩
  rw [hb] at r
  exact ⟨b0, by simpa [R] using r, k _ H' x (by simp [R])⟩
/-- str(o), o an instance with an own __str__ -/
theorem kd_strOwn {cn : Str} {ns : List Str} {t : Str} (F : Dun X.prog X.w X.K X.mg X.base cn "__str__" k (puSp X.K X.mg pre args res)) (hr : Room (k + 2) X.A) (i : ι) (hp : pre i) (hds : [.obj cn ns ds] = args i) (hb : res i = .str t) : CalD X (.type "str") [.obj cn ns ds] (.str t) := by
  obtain ⟨C, f, hm, hf, hfn, F⟩ := F.ex
  have ur : CallR X (.type "str") (fun xs H Q => ∃ a dx fs, xs = [.ref a] ∧ H a = some (.ins C dx fs) ∧ puSp X.K X.mg pre args res [.ref a] H (fun v H' => ∃ r, v = .str r ∧ Q (.str r) H') E0) := by
    intro pins s σ H xs us Q I r h
    obtain ⟨a, dx, fs, rfl, ea, q⟩ := h
    rw [Vals.ref1 r]
    obtain ⟨mA, O, _, _, _, _⟩ := ins_get I.hok ea
    obtain ⟨od, J, _⟩ := O.look
    have hr2 : Room k X.A.in1.in1 := (show Room (k + 1) X.A.in1 from hr.in1).in1
    refine PySem.W.kso_call hr2.units0 I.kIn J hf hfn (wpAny_mono (wpAny_call (SlX.run_at (us := [.ref a]) (ws := [.ref a]) F hr2 I.env0.in1.in1 pass0 I (.cons rfl .nil) q)) (fun w s' z => ?_) fun _ _ x => x)
    obtain ⟨z', H', I', rz, r, rfl, qz⟩ := z
    obtain ⟨t, rfl⟩ := (show ∃ t, w = Value.str r t from rz)
    exact ⟨.str r, H', I', ⟨t, rfl⟩, qz⟩
  refine ⟨_, ur, fun M H vs Q mt hv k => ?_⟩
  obtain ⟨v, rfl, hw⟩ := rs1 hv
  have hv0 := hw
  obtain ⟨ad, C', dx, xs, rfl, _, hm', ho, hl, rs⟩ := r_obj hw
  rw [hm] at hm'; cases hm'
  refine ⟨ad, dx, _, rfl, ho, pu_use i hp mt (by rw [← hds]; exact .cons hv0 .nil) fun v H' x r => ?_⟩
  rw [hb] at r
  exact ⟨t, by simpa [R] using r, k _ H' x (by simp [R])⟩
/-- repr(o) -/
theorem kd_reprOwn {cn : Str} {ns : List Str} {t : Str} (F : Dun X.prog X.w X.K X.mg X.base cn "__repr__" k (puSp X.K X.mg pre args res)) (hr : Room (k + 1) X.A) (i : ι) (hp : pre i) (hds : [.obj cn ns ds] = args i) (hb : res i = .str t) : CalD X (.builtin "repr") [.obj cn ns ds] (.str t) := by
  obtain ⟨C, f, hm, hf, hfn, F⟩ := F.ex
  have ur : CallR X (.builtin "repr") (fun xs H Q => ∃ a dx fs, xs = [.ref a] ∧ H a = some (.ins C dx fs) ∧ puSp X.K X.mg pre args res [.ref a] H (fun v H' => ∃ r, v = .str r ∧ Q (.str r) H') E0) := by
    intro pins s σ H xs us Q I r h
    obtain ⟨a, dx, fs, rfl, ea, q⟩ := h
    rw [Vals.ref1 r]
    obtain ⟨mA, O, _, _, _, _⟩ := ins_get I.hok ea
    obtain ⟨od, J, _⟩ := O.look
    obtain ⟨m, hF⟩ := I.fr
    have hr1 : Room k X.A.in1 := hr.in1
    refine PySem.W.repr_K hr1.units0 hF I.ok.mod.kin J hf hfn (wpAny_mono (wpAny_call (SlX.run_at (us := [.ref a]) (ws := [.ref a]) F hr1 I.env0.in1 pass0 I (.cons rfl .nil) q)) (fun w s' z => ?_) fun _ _ x => x)
    obtain ⟨z', H', I', rz, r, rfl, qz⟩ := z
    obtain ⟨t, rfl⟩ := (show ∃ t, w = Value.str r t from rz)
    exact ⟨.str r, H', I', ⟨t, rfl⟩, qz⟩
  refine ⟨_, ur, fun M H vs Q mt hv k => ?_⟩
  obtain ⟨v, rfl, hw⟩ := rs1 hv
  have hv0 := hw
  obtain ⟨ad, C', dx, xs, rfl, _, hm', ho, hl, rs⟩ := r_obj hw
  rw [hm] at hm'; cases hm'
  refine ⟨ad, dx, _, rfl, ho, pu_use i hp mt (by rw [← hds]; exact .cons hv0 .nil) fun v H' x r => ?_⟩
  rw [hb] at r
  exact ⟨t, by simpa [R] using r, k _ H' x (by simp [R])⟩
/-! ### instances that change -/
/-- o.m(..), o a thing that may change -/
theorem e_mc {ad : Addr} {cn : Str} {ns : List Str} {mc' : MC} {pl : Sem Bool} (F : Mth X.prog X.w X.K X.mg X.base cn m k (fnSp X.K X.mg pre args cz res cz')) (hr : Room k X.A) (ho : EE X M e cs o (.ref ad) cs) (hin : (ad, MC.obj cn ns ds) ∈ cs) (ha : EA X M e cs (a :: es) es' cs1) (hnm : m ∉ ns) (i : ι) (hp : pre i) (hds : .ref ad :: es' = args i) {mc : MC} (h1 : cz i = [(ad, mc)]) (h2 : cz' i = [(ad, mc')]) (hu : Upd1 ad mc mc' cs1 cs2) (hd : res i = d := by rfl)
    (hst : starEach (a :: es) X.env = (false, eval a X.env) :: starEach es X.env := by rfl) (hpl : (backTo pos (starEach es X.env)).any (·.1) = false := by rfl)
    (ht : eval (.Call (.Attribute o m apos) (a :: es) [] pos) X.env = (do
      let ov ← eval o X.env
      standAt apos.atName
      let (f, first) ← holding [ov] (getMethod ov m pl)
      callWith pos f first (backTo pos (starEach (a :: es) X.env)) (backToKw pos (keywordEach [] X.env))) := by rfl) : EE X M e cs (.Call (.Attribute o m apos) (a :: es) [] pos) d cs2 where
  dm := hu.dm.trans ha.dm
  k := fun σ H Q S k => by
    obtain ⟨C, f, hm, hc, hmt, F⟩ := F.ex
    refine we_of (pe_methR (E := E0) pe_w hc hmt F hr pass0 pa_w hst hpl ht) (ho.k σ H _ S fun v H1 S1 x1 r1 => ?_)
    simp only [R] at r1
    subst r1
    obtain ⟨_, C', dx, xs, hm', hob, hl, rs⟩ := S1.cel _ hin
    rw [hm] at hm'; cases hm'
    refine ⟨ad, dx, _, rfl, hob, zip_lookup_none hnm, ha.k σ H1 _ S1 fun vs H2 S2 x2 r2 => ?_⟩
    subst hd
    refine sp_use i hp S2 (by rw [← hds]; exact .cons (by simp [R]) r2) (by rw [h1]; simpa using hu.mem) (by rw [h1]; simp) hu.dm (fun q hq => ?_) fun v H' S3 x3 r3 => k v H' S3 ((x1.trans x2).trans (by rw [← ha.dm]; exact x3)) r3
    rw [h1, h2]
    rcases hu.of S2.nd q hq with z | ⟨z1, z2⟩
    · exact .inl (by simp [z])
    · exact .inr ⟨z1, by simpa using z2⟩
theorem e_mc0 {ad : Addr} {cn : Str} {ns : List Str} {mc' : MC} {pl : Sem Bool} (F : Mth X.prog X.w X.K X.mg X.base cn m k (fnSp X.K X.mg pre args cz res cz')) (hr : Room k X.A) (ho : EE X M e cs o (.ref ad) cs) (hin : (ad, MC.obj cn ns ds) ∈ cs) (hnm : m ∉ ns) (i : ι) (hp : pre i) (hds : [.ref ad] = args i) {mc : MC} (h1 : cz i = [(ad, mc)]) (h2 : cz' i = [(ad, mc')]) (hu : Upd1 ad mc mc' cs cs2) (hd : res i = d := by rfl)
    (ht : eval (.Call (.Attribute o m apos) [] [] pos) X.env = (do
      let ov ← eval o X.env
      standAt apos.atName
      let (f, first) ← holding [ov] (getMethod ov m pl)
      callWith pos f first (backTo pos (starEach [] X.env)) (backToKw pos (keywordEach [] X.env))) := by rfl) : EE X M e cs (.Call (.Attribute o m apos) [] [] pos) d cs2 where
  dm := hu.dm
  k := fun σ H Q S k => by
    obtain ⟨C, f, hm, hc, hmt, F⟩ := F.ex
    refine we_of (pe_methR0 (E := E0) pe_w hc hmt F hr pass0 ht) (ho.k σ H _ S fun v H1 S1 x1 r1 => ?_)
    simp only [R] at r1
    subst r1
    obtain ⟨_, C', dx, xs, hm', hob, hl, rs⟩ := S1.cel _ hin
    rw [hm] at hm'; cases hm'
    subst hd
    refine ⟨ad, dx, _, rfl, hob, zip_lookup_none hnm, ?_⟩
    refine sp_use i hp S1 (by rw [← hds]; exact .cons (by simp [R]) .nil) (by rw [h1]; simpa using hu.mem) (by rw [h1]; simp) hu.dm (fun q hq => ?_) fun v H' S3 x3 r3 => k v H' S3 (x1.trans x3) r3
    rw [h1, h2]
    rcases hu.of S1.nd q hq with z | ⟨z1, z2⟩
    · exact .inl (by simp [z])
    · exact .inr ⟨z1, by simpa using z2⟩
/-- o.f += n, o a thing that may change -/
theorem at_fldaug {ad C : Addr} {cn : Str} {ns : List Str} {i j : Int} {tp : Pos} (q : Nat) (ho : EE X M e cs o (.ref ad) cs) (hv : EE X M e cs ex (.int j) cs) (hm : X.mg cn = some (.ref C)) (hcl : Cls X.K C) (hn : NoAttr X.K C m) (hlen : ns.length < 900) (hi : ns.idxOf? m = some q) (hq : ds[q]? = some (.int i)) (hu : Upd1 ad (.obj cn ns ds) (.obj cn ns (ds.set q (.int (i + j)))) cs cs2)
    (k : At X M e cs2 fr (wSs X rest D0)) : At X M e cs fr (wSs X (.AugAssign (.Attribute o m tp) .Add ex pos :: rest) D0) := fun σ H S x l =>
  wss_of (pss_cons (ps_fldaug pe_w pe_w in_add) pss_w) (ho.k σ H _ S fun v H1 S1 x1 r1 => by
    simp only [R] at r1
    subst r1
    obtain ⟨mm, C', dx, xs, hm', h3, hl, rs⟩ := S1.cel _ hu.mem
    rw [hm] at hm'; cases hm'
    obtain ⟨w, hw, rw'⟩ := rs.get hq
    simp only [R] at rw'
    subst rw'
    refine ⟨ad, C, dx, ns.zip xs, .int i, rfl, h3, hcl, hn, zip_lookup hi hw, hv.k σ H1 _ S1 fun u H2 S2 x2 r2 => ?_⟩
    simp only [R] at r2
    subst r2
    obtain ⟨mm, C', dx2, xs2, hm', h4, hl2, rs2⟩ := S2.cel _ hu.mem
    rw [hm] at hm'; cases hm'
    refine ⟨i, j, rfl, rfl, dx2, ns.zip xs2, h4, by rw [List.length_zip]; omega, ?_⟩
    rw [putF_at hi hl2.symm]
    have hnm : ∀ b o, ¬ M b → H2 b = some o → upd H2 ad (.ins C dx2 (ns.zip (xs2.set q (.int (i + j))))) b = some o := fun b o nb h => by rw [upd_ne (fun z => nb (by rw [z]; exact mm))]; exact h
    refine k σ _ (sit_put S2 hu ⟨C, dx2, _, hm, upd_same, by simp [hl2], Rs.ext hnm (fun _ n _ => n) _ (rs2.set q (by simp [R]))⟩) ?_ (lo_of l hu.dm)
    exact ext_on (ext_on (ext_on x l x1) l x2) l (ext_put hu.dom))
theorem R.of_flat {K : PySem.W.Frag} {mg : Str → Option Value} {H : Hp} : ∀ {d : D} {v : V}, Od.flat d = some v → R K mg M H v d
  | .non, v, h => by simp [Od.flat] at h; simp [R, ← h]
  | .bl _, v, h => by simp [Od.flat] at h; simp [R, ← h]
  | .int _, v, h => by simp [Od.flat] at h; simp [R, ← h]
  | .str _, v, h => by simp [Od.flat] at h; simp [R, ← h]
  | .ref _, v, h => by simp [Od.flat] at h
  | .ty _, v, h => by simp [Od.flat] at h
  | .lst _, v, h => by simp [Od.flat] at h
  | .tup _, v, h => by simp [Od.flat] at h
  | .obj _ _ _, v, h => by simp [Od.flat] at h
  | .dic _ _, v, h => by simp [Od.flat] at h
  | .scr _, v, h => by simp [Od.flat] at h
theorem Rs.of_flats {K : PySem.W.Frag} {mg : Str → Option Value} {H : Hp} : ∀ {ds : List D} {vs ws : List V}, Od.flats ds = some ws → vs = ws → Rs K mg M H vs ds
  | [], vs, ws, h, e => by simp [Od.flats] at h; subst e h; exact Rs.nil
  | d :: ds, vs, ws, h, e => by
    unfold Od.flats at h
    cases q1 : Od.flat d with
    | none => rw [q1] at h; cases h
    | some w =>
      rw [q1] at h
      cases q2 : Od.flats ds with
      | none => rw [q2] at h; cases h
      | some w2 =>
        rw [q2] at h
        cases h
        subst e
        exact .cons (R.of_flat q1) (Rs.of_flats q2 rfl)
/-- x = C(..), an instance that changes from here on; its fields are plain -/
theorem at_setC {cn : Str} {ns : List Str} {dz : ι → List D} {dx : List D} {ws : List V} (i : Nat) (F : Mkr X.prog X.w X.K X.mg X.base cn k (mkSp X.K X.mg cn pre args ns dz)) (hr : Room (k + 1) X.A) (ha : EA X M e cs (a :: es) dx cs) (j : ι) (hp : pre j) (hds : dx = args j) (hfl : flats (dz j) = some ws)
    (kk : ∀ q, At X (fun b => M b ∨ b = q) (e.set i (some (.ref q))) ((q, .obj cn ns (dz j)) :: cs) fr (wSs X rest D0)) (hN : X.N.Nodup) (hi : X.N[i]? = some n := by rfl) (hx : Loc X.env.scope n := by first | exact .inl rfl | exact .inr rfl) (hg : Gl X cn := by rfl)
    (hf : X.fn n = true ∨ X.env.scope.names.lookup n = some .local := by first | exact .inl rfl | exact .inr rfl) (hdb : (cn == ("__debug__" : Str)) = false := by decide) (he : starEach (a :: es) X.env = (false, eval a X.env) :: starEach es X.env := by rfl) (hpl : (backTo pos (starEach es X.env)).any (·.1) = false := by rfl)
    {spos : Pos} (hs2 : swapsWith (.Call (.Name cn p) (a :: es) [] pos) (some (.Name n pos')) spos.line X.env = pure false := by rfl) : At X M e cs fr (wSs X (.Assign [.Name n pos'] (.Call (.Name cn p) (a :: es) [] pos) spos :: rest) D0) := fun σ H S xx l => by
  obtain ⟨C, f, hm, hmk, F⟩ := F.ex
  refine wss_of (pss_cons (ps_set hN hi hx (StX.pe_makeR (E := E0) hmk F hr hg hm pass0 pa_w hdb he hpl) hs2 hf) pss_w) (ha.k σ H _ S fun vs H1 S1 x1 r1 xa dx hxa hdx hne => ?_)
  subst hds
  have ke : ∀ a o, H1 a = some o → upd (upd H1 dx (.own xa)) xa (.ins C dx []) a = some o := fun a o h => by
    rw [upd_ne (ne_of_none h hxa), upd_ne (ne_of_none h hdx)]; exact h
  have tr : ∀ a, H1 a ≠ none → upd (upd H1 dx (.own xa)) xa (.ins C dx []) a ≠ none := fun a h => by
    cases q : H1 a with
    | none => exact absurd q h
    | some o => rw [ke a o q]; simp
  refine ⟨M, j, xa, C, dx, vs, hp, rfl, hm, upd_same, new_m S1.mt hxa, fun a ma => tr a (S1.mt a ma), Rs.ext (fun a o _ h => ke a o h) (fun a n h z => z.elim n fun z => h (z ▸ hxa)) _ r1, fun H' mt xt ro => ⟨rfl, ?_⟩⟩
  have xt' : Ext [] H1 H' := fun a o h _ => xt a o (ke a o h) (by simpa using ne_of_none h hxa)
  have kp : ∀ b o, H1 b = some o → H' b = some o := fun b o h => xt' b o h (by simp)
  have mr : ∀ b, ¬ M b → H1 b ≠ none → ¬ (M b ∨ b = xa) := fun b h1 h2 z => z.elim h1 fun z => h2 (z ▸ hxa)
  unfold R at ro
  obtain ⟨q, C', dq, xs, eq, nq, hm', hq, hl, rs⟩ := ro
  cases eq
  rw [hm] at hm'; cases hm'
  have exs := rs.flats hfl
  have rs2 : Rs X.K X.mg (fun b => M b ∨ b = xa) H' xs (dz j) := Rs.of_flats hfl (by rw [exs])
  have S2 : Sit X.K X.mg (fun b => M b ∨ b = xa) σ H' e ((xa, .obj cn ns (dz j)) :: cs) := by
    refine ⟨fun b mb => ?_, S1.len, fun i d hd => ?_, fun c hc => ?_, ?_⟩
    · rcases mb with mb | rfl
      · exact mt b mb
      · rw [hq]; simp
    · obtain ⟨v, e1, r⟩ := S1.env i d hd
      exact ⟨v, e1, R.ext (fun b o _ h => kp b o h) mr _ r⟩
    · rcases List.mem_cons.mp hc with rfl | hc
      · exact ⟨.inr rfl, C, dq, xs, hm, hq, hl, rs2⟩
      · obtain ⟨m, c2⟩ := S1.cel c hc
        exact ⟨.inl m, c2.ext (fun b o _ h => kp b o h) mr fun o h => kp _ o h⟩
    · show (xa :: cs.map (·.1)).Nodup
      refine List.nodup_cons.mpr ⟨fun z => ?_, S1.nd⟩
      obtain ⟨c, hc, e⟩ := List.mem_map.mp z
      exact (S1.cel c hc).2.ne (e ▸ hxa)
  refine kk xa _ H' (S2.set i (by simp [R])) ?_ ?_
  · exact ext_on (ext_on xx l x1) l (xt'.mono (by simp))
  · intro f0 hf0 b hb
    rcases List.mem_cons.mp hb with rfl | hb
    · by_cases h : b ∈ f0.1
      · exact .inl h
      · right
        cases z : f0.2 b with
        | none => rfl
        | some o =>
          have := (ext_on xx l x1) f0 hf0 b o z h
          rw [this] at hxa; cases hxa
    · exact l f0 hf0 b hb
end
end Od

set_option Elab.async false
set_option linter.all false
set_option maxRecDepth 100000
set_option maxHeartbeats 4000000
/-! Od15: f'a{x}b', s.startswith(t, i), f(k=v) -/
namespace Od
open PySem L2 TL PySem.Spec
section
variable {X : Cx} {M : Addr → Prop} {e : DE} {cs cs1 cs2 cs3 : Cs} {pos p pos' apos p1 p2 p3 : Pos} {tg a b c ex o : Expr} {es : List Expr} {d x y z : D} {ds es' : List D} {n m : Str} {k j : Nat}
/-- f'a{x}b' -/
theorem e_fstr3 {s t u : Str} {i1 i2} (ha : EE X M e cs ex (.str t) cs1) (hl : s.length + t.length + u.length ≤ 100000) : EE X M e cs (.JoinedStr [.Constant (.str s) i1 p1, .FormattedValue ex (-1) none p2, .Constant (.str u) i2 p3] pos) (.str (s ++ t ++ u)) cs1 where
  dm := ha.dm
  k := fun σ H Q S k => by
    have z : ∀ n : Nat, n ≤ 100000 → n ≤ sizeLine := fun n h => Nat.le_trans h (by decide)
    have e0 : ∀ w : Str, (Str.empty : Str) ++ w = w := fun w => ext_tl (by
      show (Str.empty.cps ++ w.cps).toList = w.cps.toList
      simp [Str.empty])
    have la : ∀ v w : Str, (v ++ w).length = v.length + w.length := fun v w => by
      rw [len_tl, len_tl, len_tl]
      show ((v.cps ++ w.cps).toList).length = _
      simp
    refine we_of (pe_joined (.cons pe_str (.cons (pe_fmt pe_w) (.cons pe_str .nil)))) ⟨s, rfl, z _ (by rw [la]; show 0 + _ ≤ _; omega), ha.k σ H _ S fun v H1 S1 x1 r1 => ?_⟩
    simp only [R] at r1
    refine .inl ⟨t, r1, z _ (by omega), t, rfl, z _ (by rw [la, la]; show 0 + _ + _ ≤ _; omega), u, rfl, z _ (by rw [la, la, la]; show 0 + _ + _ + _ ≤ _; omega), k _ H1 S1 x1 ?_⟩
    simp only [R]
    rw [e0]
/-- s.startswith(t, i) -/
theorem e_sw {s t : Str} {i : Int} (ho : EE X M e cs o (.str s) cs1) (ha : EE X M e cs1 a (.str t) cs2) (hb : EE X M e cs2 b (.int i) cs3)
    (h1 : ∀ ta, PA X [a, b] ta → PE X (.Call (.Attribute o "startswith" apos) [a, b] [] pos) (tBM X.K "str" (fun x xs H Q => ∃ (a b : Str) (i : Int), x = .str a ∧ xs = [.str b, .int i] ∧ Q (.bl (Txt.startswith3 a b i)) H) (wE X o) ta) := by intro ta hta; exact pe_bm PySem.F.plainAttrs_str PySem.F.slot_str_startswith PySem.F.type_str_startswith mt_startswith3 pe_w hta)
    (he : starEach [a, b] X.env = (false, eval a X.env) :: starEach [b] X.env := by rfl) (he2 : starEach [b] X.env = (false, eval b X.env) :: starEach [] X.env := by rfl) : EE X M e cs (.Call (.Attribute o "startswith" apos) [a, b] [] pos) (.bl (Txt.startswith3 s t i)) cs3 where
  dm := hb.dm.trans (ha.dm.trans ho.dm)
  k := fun σ H Q S k => by
    refine we_of (h1 _ pa_w) (ho.k σ H _ S fun v H1 S1 x1 r1 => ?_)
    simp only [R] at r1
    subst r1
    refine ⟨by first | exact tyV_str _ | exact .str _ | exact ⟨_, rfl⟩ | trivial | rfl, (a_cons ha (a_cons hb a_nil he2) he).k σ H1 _ S1 fun vs H2 S2 x2 r2 => ?_⟩
    obtain ⟨v, u, rfl, r3, r4⟩ := rs2 r2
    simp only [R] at r3 r4
    subst r3 r4
    exact ⟨s, t, i, rfl, rfl, k _ H2 S2 (x1.trans (by rw [← ho.dm]; exact x2)) (by simp [R])⟩
/-- a def of the module, called by a keyword -/
structure DfnK (P : Program) (w : World) (K : PySem.W.Frag) (mg : Str → Option Value) (base : Heap) (n kw : Str) (k : Nat) (sp : Sp) : Prop where
  ex : ∃ f fd ps, mg n = some (.ref f) ∧ PySem.W.keepIn K (.ref f) = true ∧ FnOk P w K mg base CX0 k f fd ps sp ∧ KBinds K fd ps [kw] (fun us ws => us ++ ws) (fun vs zs => vs ++ zs)
variable {ι : Type} {pre : ι → Prop} {args : ι → List D} {res : ι → D}
/-- f(k=v) -/
theorem e_callK {kw : String} {kp : Pos} (F : DfnK X.prog X.w X.K X.mg X.base n (Str.ofString kw) k (puSp X.K X.mg pre args res)) (hr : Room k X.A) (ha : EE X M e cs a x cs1) (i : ι) (hp : pre i) (hds : [x] = args i) (hd : res i = d := by rfl) (hg : Gl X n := by rfl) (hdb : (n == ("__debug__" : Str)) = false := by decide)
    (hall : (backToKw pos (keywordEach [⟨some kw, a, kp⟩] X.env)).all (·.1.isSome) = true := by rfl) (hks : (backToKw pos (keywordEach [⟨some kw, a, kp⟩] X.env)).filterMap (·.1) = [Str.ofString kw] := by rfl)
    (hpl : ((backTo pos (starEach [] X.env)).any (·.1) || (backToKw pos (keywordEach [⟨some kw, a, kp⟩] X.env)).any (·.1.isNone)) = false := by rfl) : EE X M e cs (.Call (.Name n p) [] [⟨some kw, a, kp⟩] pos) d cs1 where
  dm := ha.dm
  k := fun σ H Q S k => by
    obtain ⟨f, fd, ps, hm, hk, F, kb⟩ := F.ex
    have pe : PE X (.Call (.Name n p) [] [⟨some kw, a, kp⟩] pos) (fun σ H Q => tCons (wE X a) tNil σ H fun zs H2 => puSp X.K X.mg pre args res zs H2 Q E0) := by
      refine ⟨fun pins s σ H Q I h => ?_⟩
      refine wpAny_Call_Name_kw (ld_glob I hg hm ?_ hdb)
      refine PySem.W.callWith_KW0 (h₀ := X.base) I.ok.mod.kin hk hall (thn ((pk_cons pe_w pk_nil).run pos pins s σ H _ I h) fun ws s2 ⟨zs, H2, I2, rz, q2⟩ => ⟨I2.kIn, ?_⟩) hpl
      rw [hks]
      exact run_fnk (us := []) (vs := []) F hr kb pass0 I2 .nil rz q2
    refine we_of pe (ha.k σ H _ S fun v H1 S1 x1 r1 => ?_)
    subst hd
    show puSp X.K X.mg pre args res [v] H1 Q E0
    exact sp_use i hp S1 (by rw [← hds]; exact .cons r1 .nil) (by simp) (by simp) rfl (fun q hq => .inr ⟨hq, by simp⟩) fun v H' S2 x2 r2 => k v H' S2 (x1.trans (by rw [← ha.dm]; exact x2)) r2
end
end Od

set_option Elab.async false
set_option linter.all false
set_option maxRecDepth 100000
set_option maxHeartbeats 4000000
/-! Od16: {k: v, ..}[x] of texts -/
namespace Od
open PySem L2 TL PySem.Spec
section
variable {X : Cx} {M : Addr → Prop} {e : DE} {cs cs1 : Cs} {pos pd p1 p2 p3 p4 p5 p6 : Pos} {b : Expr}
theorem dix_core {keys : List (Option Expr)} {values : List Expr} {trs : List (TE × TE)} {s t : Str} {kvs : List (Key × V)} (hpp : PPs X pd keys values trs) (hall : keys.all (·.isSome) = true) (hl : keys.length = values.length) (h0 : keys ≠ []) (h15 : keys.length ≤ 15)
    (htr : ∀ (σ : L2.St) (H : Hp) (Q : List (V × V) → Hp → Prop), Q (kvs.map fun kv => (kV kv.1, kv.2)) H → tPairs trs σ H Q) (hlen : kvs.length ≤ 15) (hb : EE X M e cs b (.str s) cs1) (hv : valV (mergeK [] kvs) (Sum.inr s : Key) = some (.str t)) (hu : X.A.units + 1 < cLine) (hs : NoSl b) : EE X M e cs (.Subscript (.Dict keys values pd) b pos) (.str t) cs1 where
  dm := hb.dm
  k := fun σ H Q S k => by
    refine we_of (pe_dget hu (pe_disp hpp hall hl h0 h15) pe_w hs) (fun p hp => htr _ _ _ ⟨upd_same, kvs, rfl, hlen, ?_⟩)
    have x1 : Ext [] H (upd (upd H p (.dK [])) p (.dK (mergeK [] kvs))) := fun a o h _ => by
      rw [upd_ne (ne_of_none h hp), upd_ne (ne_of_none h hp)]; exact h
    have S1 := S.ex x1
    have hnd : p ∉ dom cs := fun z => by
      obtain ⟨q, hq, e⟩ := List.mem_map.mp z
      exact (S.cel q hq).2.ne (e ▸ hp)
    refine hb.k σ _ _ S1 fun v H2 S2 x2 r2 => ?_
    simp only [R] at r2
    subst r2
    have h2 : H2 p = some (.dK (mergeK [] kvs)) := x2 p _ upd_same hnd
    refine ⟨p, .str t, rfl, ?_, k _ H2 S2 ((x1.mono (by simp)).trans x2) (by simp [R])⟩
    have := DGet.k (k := (Sum.inr s : Key)) h2
    rw [hv] at this
    exact this
theorem e_dix2 {k1 v1 k2 v2 s t : Str} {i1 i2 i3 i4} (hb : EE X M e cs b (.str s) cs1) (hv : valV (mergeK [] [((Sum.inr k1 : Key), V.str v1), (Sum.inr k2, .str v2)]) (Sum.inr s : Key) = some (.str t)) (hu : X.A.units + 1 < cLine) (hs : NoSl b := by intro _ _; rfl) : EE X M e cs (.Subscript (.Dict [some (.Constant (.str k1) i1 p1), some (.Constant (.str k2) i2 p2)] [.Constant (.str v1) i3 p3, .Constant (.str v2) i4 p4] pd) b pos) (.str t) cs1 :=
  dix_core (pps_cons pe_str pe_str (pps_cons pe_str pe_str pps_nil)) rfl rfl (by simp) (by simp) (kvs := [((Sum.inr k1 : Key), V.str v1), (Sum.inr k2, .str v2)]) (fun σ H Q q => q) (by simp) hb hv hu hs
theorem e_dix3 {k1 v1 k2 v2 k3 v3 s t : Str} {i1 i2 i3 i4 i5 i6} (hb : EE X M e cs b (.str s) cs1) (hv : valV (mergeK [] [((Sum.inr k1 : Key), V.str v1), (Sum.inr k2, .str v2), (Sum.inr k3, .str v3)]) (Sum.inr s : Key) = some (.str t)) (hu : X.A.units + 1 < cLine) (hs : NoSl b := by intro _ _; rfl) : EE X M e cs (.Subscript (.Dict [some (.Constant (.str k1) i1 p1), some (.Constant (.str k2) i2 p2), some (.Constant (.str k3) i3 p3)] [.Constant (.str v1) i4 p4, .Constant (.str v2) i5 p5, .Constant (.str v3) i6 p6] pd) b pos) (.str t) cs1 :=
  dix_core (pps_cons pe_str pe_str (pps_cons pe_str pe_str (pps_cons pe_str pe_str pps_nil))) rfl rfl (by simp) (by simp) (kvs := [((Sum.inr k1 : Key), V.str v1), (Sum.inr k2, .str v2), (Sum.inr k3, .str v3)]) (fun σ H Q q => q) (by simp) hb hv hu hs
end
end Od

set_option Elab.async false
set_option linter.all false
set_option maxRecDepth 100000
set_option maxHeartbeats 4000000
/-! Fm: formulas as plain data -/
namespace Od
open PySem L2 TL PySem.Spec
inductive Op | an | orr | im
deriving DecidableEq
inductive Fm | cst (b : Bool) | le (c : Nat) | bin (o : Op) (a b : Fm)
deriving DecidableEq
def sg (c : Nat) : Str := ⟨#[c]⟩
@[simp] theorem tl_sg (c : Nat) : tl (sg c) = [c] := rfl
def Op.w : Op → Str
  | .an => "and"
  | .orr => "or"
  | .im => "if"
def Op.s : Op → Str
  | .an => " & "
  | .orr => " | "
  | .im => " -> "
def cw (b : Bool) : Str := if b then "true" else "false"
def ct (b : Bool) : Str := if b then "1" else "0"
def Fm.w : Fm → Str
  | .cst b => cw b
  | .le _ => "letter"
  | .bin o _ _ => o.w
def Fm.t : Fm → Str
  | .cst b => ct b
  | .le c => sg c
  | .bin o a b => if o = .im ∧ b = .cst false then ("-" : Str) ++ a.t else ("(" : Str) ++ a.t ++ o.s ++ b.t ++ (")" : Str)
def Fm.sz : Fm → Nat
  | .cst _ => 1
  | .le _ => 1
  | .bin _ a b => 1 + (a.sz + b.sz)
def Fm.nest : Fm → Nat
  | .cst _ => 1
  | .le _ => 1
  | .bin _ a b => 1 + max a.nest b.nest
def Fm.dep : Fm → Nat
  | .cst _ => 0
  | .le _ => 0
  | .bin o a b => (if o = .im then 1 else 0) + max a.dep b.dep
def Fm.has : Fm → Nat → Bool
  | .cst _, _ => false
  | .le c, x => decide (x = c)
  | .bin _ a b, x => a.has x || b.has x
def alpha : List Nat := (List.range 26).map (· + 97)
def Fm.l (f : Fm) : Str := ⟨(alpha.filter f.has).toArray⟩
@[simp] theorem tl_l (f : Fm) : tl f.l = alpha.filter f.has := rfl
def fnames : List Str := ["own_word", "own_parts", "own_text", "own_size", "own_nested", "own_depth", "own_letters"]
/-- the formula's object -/
def Fm.o : Fm → D
  | .cst b => .obj "Formula" fnames [.str (cw b), .lst [], .str (ct b), .int 1, .int 1, .int 0, .str (Fm.cst b).l]
  | .le c => .obj "Formula" fnames [.str "letter", .lst [.str (sg c)], .str (sg c), .int 1, .int 1, .int 0, .str (Fm.le c).l]
  | .bin o a b => .obj "Formula" fnames [.str o.w, .lst [a.o, b.o], .str (Fm.bin o a b).t, .int ((Fm.bin o a b).sz : Nat), .int ((Fm.bin o a b).nest : Nat), .int ((Fm.bin o a b).dep : Nat), .str (Fm.bin o a b).l]
def Fm.parts : Fm → List D
  | .cst _ => []
  | .le c => [.str (sg c)]
  | .bin _ a b => [a.o, b.o]
def Fm.inner : Fm → List Fm
  | .bin _ a b => [a, b]
  | _ => []
def Fm.fs (f : Fm) : List D := [.str f.w, .lst f.parts, .str f.t, .int (f.sz : Nat), .int (f.nest : Nat), .int (f.dep : Nat), .str f.l]
theorem Fm.o_eq : ∀ f : Fm, f.o = .obj "Formula" fnames f.fs
  | .cst _ => rfl
  | .le _ => rfl
  | .bin _ _ _ => rfl
/-- the law's own formula -/
def Fm.d : Fm → D
  | .cst b => .tup [.str (cw b)]
  | .le c => .tup [.str "letter", .str (sg c)]
  | .bin o a b => .tup [.str o.w, a.d, b.d]
/-- its letters are letters -/
def Fm.ok : Fm → Prop
  | .cst _ => True
  | .le c => c ∈ alpha
  | .bin _ a b => a.ok ∧ b.ok
theorem len_app (s t : Str) : (s ++ t).length = s.length + t.length := by
  rw [len_tl, len_tl, len_tl]
  show ((s.cps ++ t.cps).toList).length = _
  simp
theorem tl_app (s t : Str) : tl (s ++ t) = tl s ++ tl t := by
  show ((s.cps ++ t.cps).toList) = _
  simp
theorem Fm.t_len : ∀ f : Fm, f.t.length ≤ 6 * f.sz
  | .cst b => by cases b <;> decide +kernel
  | .le c => by show 1 ≤ 6; decide
  | .bin o a b => by
    have ha := a.t_len
    have hb := b.t_len
    unfold Fm.t Fm.sz
    split
    · rw [len_app]
      have : (("-" : Str)).length = 1 := by decide +kernel
      omega
    · rw [len_app, len_app, len_app, len_app]
      have h1 : (("(" : Str)).length = 1 := by decide +kernel
      have h2 : ((")" : Str)).length = 1 := by decide +kernel
      have h3 : o.s.length ≤ 4 := by cases o <;> decide +kernel
      omega
theorem Fm.l_len (f : Fm) : f.l.length ≤ 26 := by
  rw [len_tl, tl_l]
  exact Nat.le_trans (List.length_filter_le _ _) (by decide)
theorem Fm.sz_pos (f : Fm) : 1 ≤ f.sz := by cases f <;> simp [Fm.sz]
/-- single signs glued -/
theorem join_sg : ∀ (cs : List Nat), Txt.join "" (cs.map sg) = ⟨cs.toArray⟩ := fun cs => by
  apply ext_tl
  rw [join_eq, tl_join]
  have e0 : tl (("" : Str)) = [] := by decide +kernel
  rw [e0]
  have : ∀ cs : List Nat, joinL [] ((cs.map sg).map tl) = cs := by
    intro cs
    induction cs with
    | nil => rfl
    | cons c r ih =>
      cases r with
      | nil => rfl
      | cons d r =>
        show [c] ++ ([] ++ joinL [] (((d :: r).map sg).map tl)) = _
        rw [ih]; rfl
  rw [this]
theorem sum_len_sg (cs : List Nat) : ((cs.map sg).map (·.length)).sum = cs.length := by
  induction cs with
  | nil => rfl
  | cons c r ih =>
    simp only [List.map_cons, List.sum_cons, ih]
    show (sg c).length + _ = _
    have : (sg c).length = 1 := rfl
    rw [this]; simp; omega
theorem join_len0 (cs : List Nat) (h : cs.length ≤ 100000) : ((cs.map sg).map (·.length)).sum + (cs.map sg).length * (("" : Str)).length ≤ 16777216 := by
  have : (("" : Str)).length = 0 := by decide +kernel
  rw [sum_len_sg, this]; omega
/-- sorted single signs -/
theorem ltCps_sg (a b : Nat) : ltCps (sg a).cps.toList (sg b).cps.toList = decide (a < b) := by
  show ltCps [a] [b] = _
  unfold ltCps
  by_cases h : a < b
  · simp [h]
  · by_cases h2 : a = b
    · subst h2; simp [ltCps]
    · have : b < a := by omega
      simp [h, h2, ltCps]
theorem sorted_sg : ∀ {cs : List Nat}, PyProof.Rows.sortedS (cs.map sg) = true → cs.Pairwise (· ≤ ·)
  | [], _ => List.Pairwise.nil
  | [a], _ => by simp
  | a :: b :: r, h => by
    have h' : PyProof.Rows.risingS (sg a) ((b :: r).map sg) = true := h
    simp only [List.map_cons, PyProof.Rows.risingS, ltCps_sg, Bool.and_eq_true, Bool.not_eq_true', decide_eq_false_iff_not] at h'
    have ih : (b :: r).Pairwise (· ≤ ·) := sorted_sg (cs := b :: r) h'.2
    refine List.pairwise_cons.mpr ⟨fun x hx => ?_, ih⟩
    rcases List.mem_cons.mp hx with rfl | hx
    · omega
    · have := (List.pairwise_cons.mp ih).1 x hx
      omega
theorem map_sg_inj : ∀ {xs ys : List Nat}, xs.map sg = ys.map sg → xs = ys
  | [], [], _ => rfl
  | x :: xs, y :: ys, h => by
    simp only [List.map_cons, List.cons.injEq] at h
    have : x = y := by
      have := congrArg tl h.1
      simpa using this
    rw [this, map_sg_inj h.2]
  | [], _ :: _, h => by simp at h
  | _ :: _, [], h => by simp at h
def srt (cs : List Nat) : List Nat := cs.mergeSort (fun a b => decide (a ≤ b))
theorem srt_perm (cs : List Nat) : (srt cs).Perm cs := List.mergeSort_perm _ _
theorem srt_sorted (cs : List Nat) : (srt cs).Pairwise (· ≤ ·) := by
  have := List.pairwise_mergeSort (le := fun a b : Nat => decide (a ≤ b)) (fun a b c h1 h2 => by simp at *; omega) (fun a b => by simp; omega) cs
  exact this.imp (by simp)
theorem sorted_uniq : ∀ {xs ys : List Nat}, xs.Perm ys → xs.Pairwise (· ≤ ·) → ys.Pairwise (· ≤ ·) → xs = ys := fun p h1 h2 => p.eq_of_pairwise (fun a b _ _ h1 h2 => Nat.le_antisymm h1 h2) h1 h2
theorem perm_sg {ys : List Str} {cs : List Nat} (h : ys.Perm (cs.map sg)) : ∃ ds : List Nat, ys = ds.map sg ∧ ds.Perm cs := by
  refine ⟨ys.map fun y => (tl y).headD 0, ?_, ?_⟩
  · rw [List.map_map]
    symm
    have : ∀ y ∈ ys, (sg ∘ fun y => (tl y).headD 0) y = y := fun y hy => by
      obtain ⟨c, _, rfl⟩ := List.mem_map.mp (h.mem_iff.mp hy)
      rfl
    rw [List.map_congr_left this]; simp
  · have := h.map fun y => (tl y).headD 0
    rw [List.map_map] at this
    have e : cs.map ((fun y => (tl y).headD 0) ∘ sg) = cs := by
      have : ∀ c ∈ cs, ((fun y => (tl y).headD 0) ∘ sg) c = c := fun c _ => rfl
      rw [List.map_congr_left this]; simp
    rw [e] at this
    exact this
theorem sortS_sg {ys : List Str} {cs : List Nat} (h : ys.Perm (cs.map sg)) (s : PyProof.Rows.sortedS ys = true) : ys = (srt cs).map sg := by
  obtain ⟨ds, rfl, hp⟩ := perm_sg h
  rw [sorted_uniq (hp.trans (srt_perm cs).symm) (sorted_sg s) (srt_sorted cs)]
end Od

set_option Elab.async false
set_option linter.all false
set_option maxRecDepth 100000
set_option maxHeartbeats 4000000
namespace Od
open PySem L2
def top (i : Nat) : Stmt := PySem.Challenge.pw_oneroot_k06_texts_of_formulas.main.body.getD i (.Pass ⟨0, 0, 0, 0⟩)
abbrev sCells : Stmt := top 19
abbrev sDraw : Stmt := top 20
abbrev sOne : Stmt := top 21
local macro_rules
  | `(tactic| walk_at "bd") => `(tactic| first | exact bd_add | exact bd_sub | exact bd_mulR (by decide) | exact bd_mulL (by decide) | exact bd_mod (by decide) | exact bd_div (by decide))
local macro_rules
  | `(tactic| walk_at "cd") => `(tactic| first | exact cd_lt | exact cd_le | exact cd_gt | exact cd_ge | exact cd_eqI)
local macro_rules
  | `(tactic| walk_at "le") => `(tactic| repeat (first | exact LeD.nil | apply LeD.drop | apply LeD.same))
/-- what a law draws from -/
structure Bag where
  cells : List Int
  pl : Nat
  acc : Int
  seed : Int
  n : Int
def Bag.c (b : Bag) : MC := .lst [.lst (b.cells.map .int), .int b.pl, .int b.acc, .int b.seed, .int b.n]
structure Bag.Ok (b : Bag) : Prop where
  lo : 0 ≤ b.seed
  hi : b.seed < 2147483629
def Bag.fill (b : Bag) : Bag :=
  if b.acc = 0 ∧ b.pl < b.cells.length then
    (if 10 ^ 18 ≤ b.cells.getD b.pl 0 then { b with pl := b.pl + 1, acc := b.cells.getD b.pl 0 }
    else { b with pl := b.pl + 1, seed := (b.seed * 40771 + b.cells.getD b.pl 0 % 2147483477 * 30637 + 43) % 2147483629 })
  else b
def Bag.next (b : Bag) : Bag := { b with seed := (b.seed * b.seed * 7 + b.seed * 38669 + b.n * 1299677 + 65293) % 2147483629 }
def Bag.tick (b : Bag) : Bag := ({ b with n := b.n + 1 } : Bag).fill
def draw (b : Bag) (s : Int) : Int × Bag :=
  if 0 < b.tick.acc then (b.tick.acc % s, { b.tick with acc := b.tick.acc / s })
  else ((b.tick.next.seed / 89 + b.tick.next.seed % 7907 * 61) % s, b.tick.next)
theorem mod_ok (x : Int) : 0 ≤ x % 2147483629 ∧ x % 2147483629 < 2147483629 := ⟨Int.emod_nonneg _ (by decide), Int.emod_lt_of_pos _ (by decide)⟩
theorem Bag.Ok.fill {b : Bag} (h : b.Ok) : b.fill.Ok := by
  unfold Bag.fill
  split
  · split
    · exact ⟨h.lo, h.hi⟩
    · exact ⟨(mod_ok _).1, (mod_ok _).2⟩
  · exact h
theorem Bag.Ok.tick {b : Bag} (h : b.Ok) : b.tick.Ok := Bag.Ok.fill ⟨h.lo, h.hi⟩
theorem draw_ok {b : Bag} (h : b.Ok) (s : Int) : (draw b s).2.Ok := by
  unfold draw
  split
  · exact ⟨h.tick.lo, h.tick.hi⟩
  · exact ⟨(mod_ok _).1, (mod_ok _).2⟩
theorem draw_lo {b : Bag} {s : Int} (h : 0 < s) : 0 ≤ (draw b s).1 ∧ (draw b s).1 < s := by
  unfold draw
  split
  · exact ⟨Int.emod_nonneg _ (by omega), Int.emod_lt_of_pos _ h⟩
  · exact ⟨Int.emod_nonneg _ (by omega), Int.emod_lt_of_pos _ h⟩
structure DrI where
  ad : Addr
  b : Bag
  s : Int
structure DrI.Pre (i : DrI) : Prop where
  ok : i.b.Ok
  pos : 0 < i.s
  lg : i.s.natAbs.log2 < 9000
section
variable (P : Program) (w : World) (K : PySem.W.Frag) (mg : Str → Option Value) (base : Heap)
/-- the built-ins are what they are -/
structure Blt : Prop where
  len : mg "len" = none
  int : mg "int" = none
  list : mg "list" = none
  sorted : mg "sorted" = none
  range : mg "range" = none
  isinstance : mg "isinstance" = none
  all : mg "all" = none
  any : mg "any" = none
  zip : mg "zip" = none
  sum : mg "sum" = none
  max : mg "max" = none
  str : mg "str" = none
  bool : mg "bool" = none
  tuple : mg "tuple" = none
  set : mg "set" = none
abbrev DrawD (k : Nat) : Prop := Dfn P w K mg base "_law_draw" k (fnSp K mg DrI.Pre (fun i => [.ref i.ad, .int i.s]) (fun i => [(i.ad, i.b.c)]) (fun i => .int (draw i.b i.s).1) (fun i => [(i.ad, (draw i.b i.s).2.c)]))
variable {P w K mg base}
theorem scDraw : FnScope ["_law_bag", "_law_sides", "_law_cell", "_law_digit", "_law_seed"] ["_law_bag", "_law_sides"] (defScope sDraw) := ⟨rfl, rfl, rfl, by decide +kernel, rfl, by decide +kernel, by decide +kernel⟩
theorem ok_draw {f : Addr} {fd : FuncData} (F : Fun K "_law_draw" "_law_draw" sDraw f fd) (hm : mg "_law_draw" = some (.ref f)) (hb : Binds K fd ["_law_bag", "_law_sides"] []) (B : Blt mg) : DrawD P w K mg base 3 := by
  refine dfn_of F hm scDraw hb (fun i => rfl) fun cdv A outer s H0 E i M Q hp hr kq => ?_
  obtain ⟨ad, b, sd⟩ := i
  obtain ⟨ok, pos, lg⟩ := hp
  dsimp only at ok pos lg kq
  refine at_sub (j := 4) (e_bin (e_ixc (e_name 0 rfl) e_int (.head _) rfl rfl) e_int (by walk_at "bd")) (e_name 0 rfl) e_int .here rfl ?_
  refine at_ifT [some (.ref ad), some (.int sd), none, none, none] [(ad, b.tick.c)]
    (t_ew (t_and (t_cmp (e_ixc (e_name 0 rfl) e_int (.head _) rfl rfl) e_int (by walk_at "cd")) fun _ => t_and1 (t_cmp (e_ixc (e_name 0 rfl) e_int (.head _) rfl rfl) (e_blt kd_lenL (a_cons (e_ixc (e_name 0 rfl) e_int (.head _) rfl rfl) a_nil) B.len) (by walk_at "cd"))))
    (fun nx k h => ?_) (fun nx k h => ?_) ?_
  · simp only [Bool.and_eq_true, decide_eq_true_eq, List.length_map] at h
    obtain ⟨h1, h2⟩ := h
    have hx : (b.cells.map D.int)[b.pl]? = some (.int (b.cells.getD b.pl 0)) := by
      have : b.pl < b.cells.length := by omega
      simp [List.getD, this]
    refine at_set 2 (e_ix (e_ixc (e_name 0 rfl) e_int (.head _) rfl rfl) (e_ixc (e_name 0 rfl) e_int (.head _) rfl rfl) (xd_lst (ixN_nat (by simpa using h2)) hx)) ?_ scDraw.nd
    refine at_sub (j := 1) (e_bin (e_ixc (e_name 0 rfl) e_int (.head _) rfl rfl) e_int (by walk_at "bd")) (e_name 0 rfl) e_int .here rfl ?_
    refine at_if (t_cmp (e_name 2 rfl) (e_bin e_int e_int (bd_pow (by decide))) (by walk_at "cd")) (fun g => ?_) fun g => ?_
    · refine at_sub (j := 2) (e_name 2 rfl) (e_name 0 rfl) e_int .here rfl ?_
      refine at_nil (at_nil (at_go k (by walk_at "le") ?_))
      simp only [decide_eq_true_eq] at g
      have e : b.tick = { b with n := b.n + 1, pl := b.pl + 1, acc := b.cells.getD b.pl 0 } := by
        have g' : (10 : Int) ^ 18 ≤ b.cells.getD b.pl 0 := g
        have h2' : b.pl < b.cells.length := by omega
        unfold Bag.tick Bag.fill
        exact Eq.trans (if_pos ⟨h1, h2'⟩) (if_pos g')
      rw [e]
      rfl
    · refine at_sub (j := 3) (e_bin (e_bty kd_int (a_cons (e_bin (e_bin (e_bin (e_ixc (e_name 0 rfl) e_int (.head _) rfl rfl) e_int (by walk_at "bd")) (e_bin (e_bin (e_bty kd_int (a_cons (e_name 2 rfl) a_nil) B.int) e_int (by walk_at "bd")) e_int (by walk_at "bd")) (by walk_at "bd")) e_int (by walk_at "bd")) a_nil) B.int) e_int (by walk_at "bd")) (e_name 0 rfl) e_int .here rfl ?_
      refine at_nil (at_nil (at_go k (by walk_at "le") ?_))
      simp only [decide_eq_false_iff_not] at g
      have e : b.tick = { b with n := b.n + 1, pl := b.pl + 1, seed := (b.seed * 40771 + b.cells.getD b.pl 0 % 2147483477 * 30637 + 43) % 2147483629 } := by
        have g' : ¬ (10 : Int) ^ 18 ≤ b.cells.getD b.pl 0 := g
        have h2' : b.pl < b.cells.length := by omega
        unfold Bag.tick Bag.fill
        exact Eq.trans (if_pos ⟨h1, h2'⟩) (if_neg g')
      rw [e]
      rfl
  · refine at_nil (at_go k (by walk_at "le") ?_)
    have e : b.tick = { b with n := b.n + 1 } := by
      unfold Bag.tick Bag.fill
      refine if_neg fun z => ?_
      simp only [Bool.and_eq_false_iff, decide_eq_false_iff_not, List.length_map] at h
      rcases h with h | h
      · exact h z.1
      · exact h (by have := z.2; simp only at this; omega)
    rw [e]
    rfl
  · have tok := ok.tick
    refine at_if (t_cmp (e_ixc (e_name 0 rfl) e_int (.head _) rfl rfl) e_int (by walk_at "cd")) (fun g => ?_) fun g => ?_
    · simp only [decide_eq_true_eq] at g
      refine at_set 3 (e_bin (e_bty kd_int (a_cons (e_ixc (e_name 0 rfl) e_int (.head _) rfl rfl) a_nil) B.int) (e_name 1 rfl) (bd_mod pos)) ?_ scDraw.nd
      refine at_sub (j := 2) (e_bin (e_ixc (e_name 0 rfl) e_int (.head _) rfl rfl) (e_name 1 rfl) (bd_div ⟨pos, lg⟩)) (e_name 0 rfl) e_int .here rfl ?_
      have e : draw b sd = (b.tick.acc % sd, { b.tick with acc := b.tick.acc / sd }) := by
        unfold draw; rw [if_pos g]
      rw [e] at kq
      exact at_end (e_name 3 rfl) rfl (.head _) kq
    · simp only [decide_eq_false_iff_not] at g
      have e : draw b sd = ((b.tick.next.seed / 89 + b.tick.next.seed % 7907 * 61) % sd, b.tick.next) := by
        unfold draw; rw [if_neg g]
      rw [e] at kq
      refine at_nil ?_
      refine at_set 4 (e_ixc (e_name 0 rfl) e_int (.head _) rfl rfl) ?_ scDraw.nd
      have l1 := tok.lo
      have l2 := tok.hi
      refine at_sub (j := 3) (e_bin (e_bty kd_int (a_cons (e_bin (e_bin (e_bin (e_bin (e_bin (e_name 4 rfl) (e_name 4 rfl) (bd_mulL ⟨by omega, by omega⟩)) e_int (by walk_at "bd")) (e_bin (e_name 4 rfl) e_int (by walk_at "bd")) (by walk_at "bd")) (e_bin (e_ixc (e_name 0 rfl) e_int (.head _) rfl rfl) e_int (by walk_at "bd")) (by walk_at "bd")) e_int (by walk_at "bd")) a_nil) B.int) e_int (by walk_at "bd")) (e_name 0 rfl) e_int .here rfl ?_
      refine at_end (e_bin (e_bty kd_int (a_cons (e_bin (e_bin (e_ixc (e_name 0 rfl) e_int (.head _) rfl rfl) e_int (by walk_at "bd")) (e_bin (e_bin (e_bty kd_int (a_cons (e_ixc (e_name 0 rfl) e_int (.head _) rfl rfl) a_nil) B.int) e_int (by walk_at "bd")) e_int (by walk_at "bd")) (by walk_at "bd")) a_nil) B.int) (e_name 1 rfl) (bd_mod pos)) rfl (.head _) kq
end
end Od

set_option Elab.async false
set_option linter.all false
set_option maxRecDepth 100000
set_option maxHeartbeats 4000000
namespace Od
open PySem L2 TL PySem.Spec
abbrev sSigns : Stmt := top 23
abbrev sLeaf : Stmt := top 24
abbrev sForm : Stmt := top 25
abbrev sInner : Stmt := top 26
local macro_rules
  | `(tactic| walk_at "bd") => `(tactic| first | exact bd_add | exact bd_sub | exact bd_mulR (by decide) | exact bd_mulL (by decide) | exact bd_mod (by decide) | exact bd_div (by decide))
local macro_rules
  | `(tactic| walk_at "cd") => `(tactic| first | exact cd_lt | exact cd_le | exact cd_gt | exact cd_ge | exact cd_eqI | exact cd_eqS)
local macro_rules
  | `(tactic| walk_at "le") => `(tactic| repeat (first | exact LeD.nil | apply LeD.drop | apply LeD.same))
/-! ### the bag at the start -/
def seed0 (s : Int) : List Int → Int
  | [] => s
  | c :: r => seed0 ((s * 45161 + c % 2147483477 + 31) % 2147483629) r
theorem seed0_ok : ∀ (cs : List Int) {s : Int}, 0 ≤ s ∧ s < 2147483629 → 0 ≤ seed0 s cs ∧ seed0 s cs < 2147483629
  | [], _, h => h
  | c :: r, _, h => seed0_ok r (mod_ok _)
theorem seed0_take {cs : List Int} : ∀ {s : Int} {i : Nat} (h : i < cs.length), seed0 s (cs.take (i + 1)) = (seed0 s (cs.take i) * 45161 + cs.getD i 0 % 2147483477 + 31) % 2147483629 := by
  induction cs with
  | nil => intro s i h; simp at h
  | cons c r ih =>
    intro s i h
    cases i with
    | zero => simp [seed0]
    | succ i =>
      simp only [List.take_succ_cons, seed0]
      rw [ih (by simpa using h)]
      simp
def bag0 (cs : List Int) : Bag := ⟨cs, 0, 0, seed0 5624 cs, 0⟩
theorem bag0_ok (cs : List Int) : (bag0 cs).Ok := ⟨(seed0_ok cs (by decide)).1, (seed0_ok cs (by decide)).2⟩
def Bag.d (b : Bag) : List D := [.lst (b.cells.map .int), .int b.pl, .int b.acc, .int b.seed, .int b.n]
section
variable (P : Program) (w : World) (K : PySem.W.Frag) (mg : Str → Option Value) (base : Heap)
abbrev CellsD (k : Nat) : Prop := Dfn P w K mg base "_law_cells" k (fnSpN K mg (fun ns : List Int => ns.length ≤ 63) (fun ns => [.scr ns]) (fun ns => (bag0 ns).d))
/-- what may be chosen from -/
def itemD : D → Nat → D
  | .lst ds, i => ds.getD i .non
  | .str s, i => .str (sg ((tl s).getD i 0))
  | _, _ => .non
def lenD : D → Nat
  | .lst ds => ds.length
  | .str s => s.length
  | _ => 0
structure OnI where
  ad : Addr
  b : Bag
  t : D
structure OnI.Pre (i : OnI) : Prop where
  ok : i.b.Ok
  pos : 0 < lenD i.t
  le : lenD i.t ≤ 100000
abbrev OneD (k : Nat) : Prop := Dfn P w K mg base "_law_one" k (fnSp K mg OnI.Pre (fun i => [.ref i.ad, i.t]) (fun i => [(i.ad, i.b.c)]) (fun i => itemD i.t (draw i.b (lenD i.t)).1.toNat) (fun i => [(i.ad, (draw i.b (lenD i.t)).2.c)]))
variable {P w K mg base}
theorem scCells : FnScope ["_law_script", "_law_seed", "_law_cell"] ["_law_script"] (defScope sCells) := ⟨rfl, rfl, rfl, by decide +kernel, rfl, by decide +kernel, by decide +kernel⟩
theorem cut63 {ns : List Int} (h : ns.length ≤ 63) : cutD (ns.map D.int) none (some 63) = ns.map D.int := by
  have l : (ns.map D.int).length = ns.length := by simp
  have e : HT.sIx (ns.map D.int).length (ns.map D.int).length (some 63) = ns.length := by
    rw [l]
    unfold HT.sIx
    simp
    omega
  unfold cutD
  rw [e]
  show ((ns.map D.int).drop 0).take (ns.length - 0) = _
  simp
  exact List.take_of_length_le (by simp)
theorem ok_cells {f : Addr} {fd : FuncData} (F : Fun K "_law_cells" "_law_cells" sCells f fd) (hm : mg "_law_cells" = some (.ref f)) (hb : Binds K fd ["_law_script"] []) (B : Blt mg) : CellsD P w K mg base 2 := by
  refine dfnN_of F hm scCells hb (fun i => rfl) fun cdv A outer s H0 E ns M Q hp hr kq => ?_
  refine at_set 1 e_int ?_ scCells.nd
  refine at_for (α := fun _ => Unit) (ds := ns.map D.int) (fun _ _ => True) (fun i _ => [some (.scr ns), some (.int (seed0 5624 (ns.take i))), none]) (fun _ _ => [])
    (ei_list ((e_slice (e_name 0 rfl) o_none (o_some e_int) sd_scr).eq (by rw [cut63 hp]))) (ltg_name 2 scCells.nd) (fun _ _ => trivial) () trivial rfl rfl (fun _ _ _ => rfl) (fun i d g H1 hd _ => ?_) fun g _ => ?_
  · have hi : i < ns.length := by
      have := (List.getElem?_eq_some_iff.mp hd).1
      simpa using this
    have e : d = .int (ns.getD i 0) := by
      simp [hi] at hd
      simp [List.getD, hi, hd]
    subst e
    refine at_set 1 (e_bin (e_bty kd_int (a_cons (e_bin (e_bin (e_bin (e_name 1 rfl) e_int (by walk_at "bd")) (e_bin (e_bty kd_int (a_cons (e_name 2 rfl) a_nil) B.int) e_int (by walk_at "bd")) (by walk_at "bd")) e_int (by walk_at "bd")) a_nil) B.int) e_int (by walk_at "bd")) ?_ scCells.nd
    refine at_nil (at_go (at_inv (e := [some (.scr ns), some (.int (seed0 5624 (ns.take (i + 1)))), none]) () trivial rfl rfl) ?_ rfl)
    rw [seed0_take hi]
    walk_at "le"
  · have e : ns.take (ns.map D.int).length = ns := by simp
    rw [e]
    refine at_endN (a_cons (e_bty kd_listL (a_cons (e_slice (e_name 0 rfl) o_none (o_some e_int) sd_scr) a_nil) B.list) (a_cons e_int (a_cons e_int (a_cons (e_name 1 rfl) (a_cons e_int a_nil))))) ?_ (by show 5 ≤ 100000; decide) (.head _) kq
    rw [cut63 hp]; rfl
theorem scOne : FnScope ["_law_bag", "_law_things"] ["_law_bag", "_law_things"] (defScope sOne) := ⟨rfl, rfl, rfl, by decide +kernel, rfl, by decide +kernel, by decide +kernel⟩
end
section
variable {X : Cx} {M : Addr → Prop} {e : DE} {cs cs1 cs2 cs3 : Cs} {pos p pos' apos : Pos} {a c ex o : Expr}
/-- _law_draw(bag, n) -/
theorem e_draw {x : Expr} {ad : Addr} {b : Bag} {n : Int} (F : DrawD X.prog X.w X.K X.mg X.base 3) (hr : Room 3 X.A) (ha : EE X M e cs a (.ref ad) cs) (hx : EE X M e cs x (.int n) cs1) (hu : Upd1 ad b.c (draw b n).2.c cs1 cs2) (ok : b.Ok) (hp : 0 < n ∧ n.natAbs.log2 < 9000) (hg : Gl X "_law_draw" := by rfl)
    (he : starEach [a, x] X.env = (false, eval a X.env) :: starEach [x] X.env := by rfl) (he2 : starEach [x] X.env = (false, eval x X.env) :: starEach [] X.env := by rfl) (hpl : (backTo pos (starEach [x] X.env)).any (·.1) = false := by rfl) : EE X M e cs (.Call (.Name "_law_draw" p) [a, x] [] pos) (.int (draw b n).1) cs2 :=
  e_call1 F hr (a_cons ha (a_cons hx a_nil he2) he) ⟨ad, b, n⟩ ⟨ok, hp.1, hp.2⟩ rfl rfl rfl hu hg (by decide) he hpl
/-- _law_one(bag, things) -/
theorem e_oneL {x : Expr} {ad : Addr} {b : Bag} {t : D} (F : OneD X.prog X.w X.K X.mg X.base 4) (hr : Room 4 X.A) (ha : EE X M e cs a (.ref ad) cs) (hx : EE X M e cs x t cs1) (hu : Upd1 ad b.c (draw b (lenD t)).2.c cs1 cs2) (ok : b.Ok) (hp : 0 < lenD t ∧ lenD t ≤ 100000) (hg : Gl X "_law_one" := by rfl)
    (he : starEach [a, x] X.env = (false, eval a X.env) :: starEach [x] X.env := by rfl) (he2 : starEach [x] X.env = (false, eval x X.env) :: starEach [] X.env := by rfl) (hpl : (backTo pos (starEach [x] X.env)).any (·.1) = false := by rfl) : EE X M e cs (.Call (.Name "_law_one" p) [a, x] [] pos) (itemD t (draw b (lenD t)).1.toNat) cs2 :=
  e_call1 F hr (a_cons ha (a_cons hx a_nil he2) he) ⟨ad, b, t⟩ ⟨ok, hp.1, hp.2⟩ rfl rfl rfl hu hg (by decide) he hpl
end
section
variable {P : Program} {w : World} {K : PySem.W.Frag} {mg : Str → Option Value} {base : Heap}
theorem log2_le {n : Nat} (h : n ≤ 100000) : ((n : Int)).natAbs.log2 < 9000 := by
  have : (n : Int).natAbs = n := by simp
  rw [this]
  have h1 : n.log2 ≤ n := Nat.log2_le_self n
  by_cases hn : n = 0
  · subst hn; decide
  · have : n.log2 < 17 := (Nat.log2_lt hn).mpr (by omega)
    omega
theorem draw_ix {b : Bag} {n : Nat} (h : 0 < n) : ixN n (draw b n).1 = some (draw b n).1.toNat ∧ (draw b n).1.toNat < n := by
  have := draw_lo (b := b) (s := n) (by omega)
  exact ⟨ixN_int this.1 this.2, by omega⟩
theorem ok_one {f : Addr} {fd : FuncData} (F : Fun K "_law_one" "_law_one" sOne f fd) (hm : mg "_law_one" = some (.ref f)) (hb : Binds K fd ["_law_bag", "_law_things"] []) (B : Blt mg) (D0 : DrawD P w K mg base 3) : OneD P w K mg base 4 := by
  refine dfn_of F hm scOne hb (fun i => rfl) fun cdv A outer s H0 E i M Q hp hr kq => ?_
  obtain ⟨ad, b, t⟩ := i
  obtain ⟨ok, pos, le⟩ := hp
  dsimp only at ok pos le kq
  obtain ⟨x1, x2⟩ := draw_ix (b := b) pos
  cases t with
  | lst ds =>
    have hd : ds[(draw b ds.length).1.toNat]? = some (ds.getD (draw b ds.length).1.toNat .non) := by
      have x2' : (draw b ds.length).1.toNat < ds.length := x2
      simp [List.getD, x2']
    exact at_end (e_ix (e_name 1 rfl) (e_draw D0 hr (e_name 0 rfl) (e_blt kd_lenL (a_cons (e_name 1 rfl) a_nil) B.len) .here ok ⟨by show (0 : Int) < ds.length; have : 0 < ds.length := pos; omega, log2_le le⟩) (xd_lst x1 hd)) rfl (.head _) kq
  | str s =>
    have hl : s.cps.toList.length = s.length := (len_tl s).symm
    have hd : s.cps.toList[(draw b s.length).1.toNat]? = some ((tl s).getD (draw b s.length).1.toNat 0) := by
      have x2' : (draw b s.length).1.toNat < s.cps.toList.length := by rw [hl]; exact x2
      simp [List.getD]
      have : (draw b s.length).1.toNat < s.cps.size := by simpa using x2'
      simp [this]
    have hz : s.length ≤ sizeLine := Nat.le_trans le (by decide)
    exact at_end (e_ix (e_name 1 rfl) (e_draw D0 hr (e_name 0 rfl) (e_blt (kd_lenS hz) (a_cons (e_name 1 rfl) a_nil) B.len) .here ok ⟨by show (0 : Int) < s.length; have : 0 < s.length := pos; omega, log2_le le⟩) (xd_str hz (by rw [hl]; exact x1) hd)) rfl (.head _) kq
  | _ => simp [lenD] at pos
end
end Od

set_option Elab.async false
set_option linter.all false
set_option maxRecDepth 100000
set_option maxHeartbeats 4000000
namespace Od
open PySem L2 TL PySem.Spec
local macro_rules
  | `(tactic| walk_at "bd") => `(tactic| first | exact bd_add | exact bd_sub | exact bd_mulR (by decide) | exact bd_mulL (by decide) | exact bd_mod (by decide) | exact bd_div (by decide))
local macro_rules
  | `(tactic| walk_at "cd") => `(tactic| first | exact cd_lt | exact cd_le | exact cd_gt | exact cd_ge | exact cd_eqI | exact cd_eqS)
local macro_rules
  | `(tactic| walk_at "le") => `(tactic| repeat (first | exact LeD.nil | apply LeD.drop | apply LeD.same))
/-! ### signs, leaves, formulas drawn -/
def steps6 : List Int := [1, 3, 5, 7, 9, 11]
def codesF (f st : Int) (many : Nat) : List Nat := (List.range many).map fun (k : Nat) => 97 + ((f + st * (k : Int)) % 26).toNat
def signsF (b : Bag) (many : Nat) : List Nat × Bag :=
  (srt (codesF (draw b 26).1 (steps6.getD (draw (draw b 26).2 6).1.toNat 1) many), (draw (draw b 26).2 6).2)
theorem codes_alpha {f st : Int} {many : Nat} {c : Nat} (h : c ∈ codesF f st many) : c ∈ alpha := by
  obtain ⟨k, _, rfl⟩ := List.mem_map.mp h
  have h1 := Int.emod_nonneg (f + st * (k : Int)) (show (26 : Int) ≠ 0 by decide)
  have h2 := Int.emod_lt_of_pos (f + st * (k : Int)) (show (0 : Int) < 26 by decide)
  refine List.mem_map.mpr ⟨((f + st * (k : Int)) % 26).toNat, List.mem_range.mpr (by omega), by omega⟩
theorem signsF_alpha {b : Bag} {many : Nat} : ∀ c ∈ (signsF b many).1, c ∈ alpha := fun c h => codes_alpha ((srt_perm _).mem_iff.mp h)
theorem signsF_len {b : Bag} {many : Nat} : (signsF b many).1.length = many := by
  show (srt _).length = _
  rw [(srt_perm _).length_eq]
  simp [codesF]
theorem signsF_ok {b : Bag} (h : b.Ok) (many : Nat) : (signsF b many).2.Ok := draw_ok (draw_ok h _) _
theorem EI.eq {X : Cx} {M : Addr → Prop} {e : DE} {cs cs1 : Cs} {tg a : Expr} {ds es : List D} (h : EI X M e cs tg a ds cs1) (q : ds = es) : EI X M e cs tg a es cs1 := q ▸ h
theorem steps_le (i : Nat) : 0 ≤ steps6.getD i 1 ∧ steps6.getD i 1 ≤ 11 := by
  unfold steps6
  match i with
  | 0 => decide
  | 1 => decide
  | 2 => decide
  | 3 => decide
  | 4 => decide
  | 5 => decide
  | i + 6 => simp [List.getD]
theorem abc : tl (("abcdefghijklmnopqrstuvwxyz" : Str)) = alpha := by decide +kernel
theorem alpha_at {i : Nat} (h : i < 26) : alpha[i]? = some (97 + i) := by
  unfold alpha
  rw [List.getElem?_map, List.getElem?_range h]
  simp; omega
theorem abc_at (x : Int) (h1 : 0 ≤ x) (h2 : x < 26) : (tl (("abcdefghijklmnopqrstuvwxyz" : Str)))[x.toNat]? = some (97 + x.toNat) := by
  rw [abc]
  exact alpha_at (by omega)
structure SgI where
  ad : Addr
  b : Bag
  n : Nat
structure SgI.Pre (i : SgI) : Prop where
  ok : i.b.Ok
  le : i.n < 64
section
variable (P : Program) (w : World) (K : PySem.W.Frag) (mg : Str → Option Value) (base : Heap)
abbrev SignsD (k : Nat) : Prop := Dfn P w K mg base "_law_signs" k (fnSp K mg SgI.Pre (fun i => [.ref i.ad, .int i.n]) (fun i => [(i.ad, i.b.c)]) (fun i => .str ⟨(signsF i.b i.n).1.toArray⟩) (fun i => [(i.ad, (signsF i.b i.n).2.c)]))
variable {P w K mg base}
theorem scSigns : FnScope ["_law_bag", "_law_many", "_law_first", "_law_step", "_law_k"] ["_law_bag", "_law_many"] (defScope sSigns) := ⟨rfl, rfl, rfl, by decide +kernel, rfl, by decide +kernel, by decide +kernel⟩
theorem steps_get {b : Bag} : itemD (.lst [.int 1, .int 3, .int 5, .int 7, .int 9, .int 11]) (draw b 6).1.toNat = .int (steps6.getD (draw b 6).1.toNat 1) := by
  have := draw_lo (b := b) (s := 6) (by decide)
  have h6 : (draw b 6).1.toNat < 6 := by omega
  generalize (draw b 6).1.toNat = i at h6 ⊢
  match i, h6 with
  | 0, _ => rfl
  | 1, _ => rfl
  | 2, _ => rfl
  | 3, _ => rfl
  | 4, _ => rfl
  | 5, _ => rfl
theorem ok_signs {f : Addr} {fd : FuncData} (F : Fun K "_law_signs" "_law_signs" sSigns f fd) (hm : mg "_law_signs" = some (.ref f)) (hb : Binds K fd ["_law_bag", "_law_many"] []) (B : Blt mg) (D0 : DrawD P w K mg base 3) (D1 : OneD P w K mg base 4) : SignsD P w K mg base 5 := by
  refine dfn_of F hm scSigns hb (fun i => rfl) fun cdv A outer s H0 E i M Q hp hr kq => ?_
  obtain ⟨ad, b, n⟩ := i
  obtain ⟨ok, le⟩ := hp
  dsimp only at ok le kq
  refine at_unp2 2 3 (e_tup (a_cons (e_draw D0 (hr.mono (by decide)) (e_name 0 rfl) e_int .here ok (by decide)) (a_cons ((e_oneL D1 hr (e_name 0 rfl) (e_lst (a_cons e_int (a_cons e_int (a_cons e_int (a_cons e_int (a_cons e_int (a_cons e_int a_nil))))))) .here (draw_ok ok _) (by decide)).eq steps_get) a_nil))) ?_ scSigns.nd
  have hst : 0 ≤ steps6.getD (draw (draw b 26).2 6).1.toNat 1 ∧ steps6.getD (draw (draw b 26).2 6).1.toNat 1 ≤ 11 := steps_le _
  have hd : ∀ k : Nat, (tl (("abcdefghijklmnopqrstuvwxyz" : Str)))[(((draw b 26).1 + steps6.getD (draw (draw b 26).2 6).1.toNat 1 * (k : Int)) % 26).toNat]? = some (97 + (((draw b 26).1 + steps6.getD (draw (draw b 26).2 6).1.toNat 1 * (k : Int)) % 26).toNat) := fun k => abc_at _ (Int.emod_nonneg _ (by decide)) (Int.emod_lt_of_pos _ (by decide))
  have hi : ∀ k : Nat, ixN 26 (((draw b 26).1 + steps6.getD (draw (draw b 26).2 6).1.toNat 1 * (k : Int)) % 26) = some (((draw b 26).1 + steps6.getD (draw (draw b 26).2 6).1.toNat 1 * (k : Int)) % 26).toNat := fun k => ixN_int (Int.emod_nonneg _ (by decide)) (Int.emod_lt_of_pos _ (by decide))
  refine at_end (e_join (ts := (signsF b n).1.map sg) (join_len0 _ (by rw [signsF_len]; omega)) e_str (e_blt (kd_sortedS (ss := (codesF (draw b 26).1 (steps6.getD (draw (draw b 26).2 6).1.toNat 1) n).map sg) (by simp [codesF]; omega) (fun ys h1 h2 => sortS_sg h1 h2)) (a_cons (EE.eq (e_lcM [("_law_k", 4)] (List.range n) (fun (k : Nat) => D.int (k : Int)) (fun (k : Nat) => D.str (sg (97 + (((draw b 26).1 + steps6.getD (draw (draw b 26).2 6).1.toNat 1 * (k : Int)) % 26).toNat)))
      (EI.eq (ei_rng1 (e_name 1 rfl) B.range (by dsimp only; omega)) (by simp [ups, Function.comp_def])) (ctg_name 4 scSigns.nd (by decide) rfl) (fun _ _ => trivial) (by simp; omega)
      (fun k hk M' hM s H C cl fp => e_ix e_str (e_bin (e_bty kd_int (a_cons (e_bin (e_name 2 rfl) (e_bin (e_name 3 rfl) (e_name 4 rfl) (bd_mulL (by omega))) (by walk_at "bd")) a_nil) B.int) e_int (by walk_at "bd")) (xd_str (by decide +kernel) ((congrArg (fun m => ixN m _) (show (tl (("abcdefghijklmnopqrstuvwxyz" : Str))).length = 26 by decide +kernel)).trans (hi k)) (hd k))) (blkOk_by rfl) scSigns.nd) (by simp [codesF])) a_nil) B.sorted)) ?_ (.head _) kq
  rw [join_sg]
end
end Od

set_option Elab.async false
set_option linter.all false
set_option maxRecDepth 100000
set_option maxHeartbeats 4000000
namespace Od
open PySem L2 TL PySem.Spec
local macro_rules
  | `(tactic| walk_at "bd") => `(tactic| first | exact bd_add | exact bd_sub | exact bd_mulR (by decide) | exact bd_mulL (by decide) | exact bd_mod (by decide) | exact bd_div (by decide))
local macro_rules
  | `(tactic| walk_at "cd") => `(tactic| first | exact cd_lt | exact cd_le | exact cd_gt | exact cd_ge | exact cd_eqI | exact cd_eqS)
local macro_rules
  | `(tactic| walk_at "le") => `(tactic| repeat (first | exact LeD.nil | apply LeD.drop | apply LeD.same))
def strOf (cs : List Nat) : Str := ⟨cs.toArray⟩
def leafF (b : Bag) (cs : List Nat) : Fm × Bag :=
  if (draw b 8).1 < 2 then (.cst (decide ((draw b 8).1 = 0)), (draw b 8).2)
  else (.le (cs.getD (draw (draw b 8).2 cs.length).1.toNat 0), (draw (draw b 8).2 cs.length).2)
def opF (w : Int) : Op := if w < 5 then .an else if w < 7 then .orr else .im
def formF : Nat → Bag → List Nat → Fm × Bag
  | 0, b, cs => leafF (draw b 9).2 cs
  | n + 1, b, cs =>
    if (draw b 9).1 < 2 then leafF (draw b 9).2 cs
    else if (draw b 9).1 = 2 then (.bin .im (formF n (draw b 9).2 cs).1 (.cst false), (formF n (draw b 9).2 cs).2)
    else (.bin (opF (draw b 9).1) (formF n (draw b 9).2 cs).1 (formF n (formF n (draw b 9).2 cs).2 cs).1, (formF n (formF n (draw b 9).2 cs).2 cs).2)
structure CsOk (cs : List Nat) : Prop where
  pos : 0 < cs.length
  le : cs.length ≤ 1000
theorem leafF_ok {b : Bag} (h : b.Ok) (cs : List Nat) : (leafF b cs).2.Ok := by
  unfold leafF
  split
  · exact draw_ok h _
  · exact draw_ok (draw_ok h _) _
theorem formF_ok : ∀ (n : Nat) {b : Bag} (h : b.Ok) (cs : List Nat), (formF n b cs).2.Ok
  | 0, b, h, cs => leafF_ok (draw_ok h _) cs
  | n + 1, b, h, cs => by
    unfold formF
    split
    · exact leafF_ok (draw_ok h _) cs
    · split
      · exact formF_ok n (draw_ok h _) cs
      · exact formF_ok n (formF_ok n (draw_ok h _) cs) cs
theorem leafF_fm {b : Bag} {cs : List Nat} (hc : CsOk cs) (ha : ∀ c ∈ cs, c ∈ alpha) : (leafF b cs).1.ok ∧ (leafF b cs).1.sz = 1 ∧ (leafF b cs).1.nest = 1 := by
  unfold leafF
  split
  · exact ⟨trivial, rfl, rfl⟩
  · refine ⟨ha _ ?_, rfl, rfl⟩
    have := (draw_ix (b := (draw b 8).2) (n := cs.length) hc.pos).2
    simp [List.getD, this]
theorem formF_fm {cs : List Nat} (hc : CsOk cs) (ha : ∀ c ∈ cs, c ∈ alpha) : ∀ (n : Nat) (b : Bag), (formF n b cs).1.ok ∧ (formF n b cs).1.sz < 2 ^ (n + 1) ∧ (formF n b cs).1.nest ≤ n + 1
  | 0, b => by
    obtain ⟨h1, h2, h3⟩ := leafF_fm (b := (draw b 9).2) hc ha
    refine ⟨h1, ?_, ?_⟩
    · show (leafF _ _).1.sz < _
      rw [h2]; decide
    · show (leafF _ _).1.nest ≤ _
      rw [h3]; decide
  | n + 1, b => by
    obtain ⟨h1, h2, h3⟩ := leafF_fm (b := (draw b 9).2) hc ha
    obtain ⟨g1, g2, g3⟩ := formF_fm hc ha n (draw b 9).2
    obtain ⟨k1, k2, k3⟩ := formF_fm hc ha n (formF n (draw b 9).2 cs).2
    have hp : 2 ^ (n + 1 + 1) = 2 * 2 ^ (n + 1) := by rw [Nat.pow_succ]; omega
    have hq : 1 ≤ 2 ^ (n + 1) := Nat.one_le_two_pow
    have hr : 2 ≤ 2 ^ (n + 1) := by rw [Nat.pow_succ]; have := Nat.one_le_two_pow (n := n); omega
    unfold formF
    split
    · exact ⟨h1, by rw [h2]; omega, by rw [h3]; omega⟩
    · split
      · refine ⟨⟨g1, trivial⟩, ?_, ?_⟩
        · simp only [Fm.sz]; omega
        · simp only [Fm.nest]; omega
      · refine ⟨⟨g1, k1⟩, ?_, ?_⟩
        · simp only [Fm.sz]; omega
        · simp only [Fm.nest]; omega
structure LfI where
  ad : Addr
  b : Bag
  cs : List Nat
structure LfI.Pre (i : LfI) : Prop where
  ok : i.b.Ok
  cs : CsOk i.cs
section
variable (P : Program) (w : World) (K : PySem.W.Frag) (mg : Str → Option Value) (base : Heap)
abbrev LeafD (k : Nat) : Prop := Dfn P w K mg base "_law_leaf" k (fnSp K mg LfI.Pre (fun i => [.ref i.ad, .str (strOf i.cs)]) (fun i => [(i.ad, i.b.c)]) (fun i => (leafF i.b i.cs).1.d) (fun i => [(i.ad, (leafF i.b i.cs).2.c)]))
abbrev FormD (n k : Nat) : Prop := Dfn P w K mg base "_law_form" k (fnSp K mg LfI.Pre (fun i => [.ref i.ad, .str (strOf i.cs), .int (n : Int)]) (fun i => [(i.ad, i.b.c)]) (fun i => (formF n i.b i.cs).1.d) (fun i => [(i.ad, (formF n i.b i.cs).2.c)]))
abbrev InnerD (k : Nat) : Prop := Dfn P w K mg base "_law_inner" k (puSp K mg (fun _ : Fm => True) (fun f => [f.d]) (fun f => .lst (f.inner.map Fm.d)))
variable {P w K mg base}
theorem scLeaf : FnScope ["_law_bag", "_law_signs_here", "_law_way"] ["_law_bag", "_law_signs_here"] (defScope sLeaf) := ⟨rfl, rfl, rfl, by decide +kernel, rfl, by decide +kernel, by decide +kernel⟩
theorem scForm : FnScope ["_law_bag", "_law_signs_here", "_law_deep", "_law_way", "_law_one_here", "_law_word"] ["_law_bag", "_law_signs_here", "_law_deep"] (defScope sForm) := ⟨rfl, rfl, rfl, by decide +kernel, rfl, by decide +kernel, by decide +kernel⟩
theorem scInner : FnScope ["_law_mine"] ["_law_mine"] (defScope sInner) := ⟨rfl, rfl, rfl, by decide +kernel, rfl, by decide +kernel, by decide +kernel⟩
theorem ok_leaf {f : Addr} {fd : FuncData} (F : Fun K "_law_leaf" "_law_leaf" sLeaf f fd) (hm : mg "_law_leaf" = some (.ref f)) (hb : Binds K fd ["_law_bag", "_law_signs_here"] []) (B : Blt mg) (D0 : DrawD P w K mg base 3) (D1 : OneD P w K mg base 4) : LeafD P w K mg base 5 := by
  refine dfn_of F hm scLeaf hb (fun i => rfl) fun cdv A outer s H0 E i M Q hp hr kq => ?_
  obtain ⟨ad, b, cs⟩ := i
  obtain ⟨ok, hc⟩ := hp
  dsimp only at ok hc kq
  refine at_set 2 (e_draw D0 (hr.mono (by decide)) (e_name 0 rfl) e_int .here ok (by decide)) ?_ scLeaf.nd
  refine at_if (t_cmp (e_name 2 rfl) e_int (by walk_at "cd")) (fun g => ?_) fun g => at_nil ?_
  · simp only [decide_eq_true_eq] at g
    have e : leafF b cs = (.cst (decide ((draw b 8).1 = 0)), (draw b 8).2) := by unfold leafF; rw [if_pos g]
    rw [e] at kq
    refine at_end (e_ite (t_cmp (e_name 2 rfl) e_int (by walk_at "cd")) (fun _ => e_tup (a_cons e_str a_nil)) (fun _ => e_tup (a_cons e_str a_nil))) ?_ (.head _) kq
    by_cases h : (draw b 8).1 = 0 <;> simp [h, Fm.d, cw]
  · simp only [decide_eq_false_iff_not] at g
    have e : leafF b cs = (.le (cs.getD (draw (draw b 8).2 cs.length).1.toNat 0), (draw (draw b 8).2 cs.length).2) := by unfold leafF; rw [if_neg g]
    rw [e] at kq
    exact at_end (e_tup (a_cons e_str (a_cons (e_oneL D1 hr (e_name 0 rfl) (e_name 1 rfl) .here (draw_ok ok _) ⟨hc.pos, Nat.le_trans hc.le (by decide)⟩) a_nil))) rfl (.head _) kq
theorem word_at (w : Int) (h1 : 3 ≤ w) (h2 : w < 9) : ixN 6 (w - 3) = some (w - 3).toNat ∧ ([D.str "and", .str "and", .str "or", .str "or", .str "if", .str "if"] : List D)[(w - 3).toNat]? = some (.str (opF w).w) := by
  refine ⟨ixN_int (by omega) (by omega), ?_⟩
  have : w = 3 ∨ w = 4 ∨ w = 5 ∨ w = 6 ∨ w = 7 ∨ w = 8 := by omega
  rcases this with rfl | rfl | rfl | rfl | rfl | rfl <;> rfl
theorem e_leaf {X : Cx} {M : Addr → Prop} {e : DE} {cs cs2 : Cs} {pos p : Pos} {a x : Expr} {ad : Addr} {b : Bag} {l : List Nat} {k : Nat} (F : LeafD X.prog X.w X.K X.mg X.base k) (hr : Room k X.A) (ha : EE X M e cs a (.ref ad) cs) (hx : EE X M e cs x (.str (strOf l)) cs) (hu : Upd1 ad b.c (leafF b l).2.c cs cs2) (ok : b.Ok) (hp : CsOk l) (hg : Gl X "_law_leaf" := by rfl)
    (he : starEach [a, x] X.env = (false, eval a X.env) :: starEach [x] X.env := by rfl) (he2 : starEach [x] X.env = (false, eval x X.env) :: starEach [] X.env := by rfl) (hpl : (backTo pos (starEach [x] X.env)).any (·.1) = false := by rfl) : EE X M e cs (.Call (.Name "_law_leaf" p) [a, x] [] pos) (leafF b l).1.d cs2 :=
  e_call1 F hr (a_cons ha (a_cons hx a_nil he2) he) ⟨ad, b, l⟩ ⟨ok, hp⟩ rfl rfl rfl hu hg (by decide) he hpl
theorem e_form {X : Cx} {M : Addr → Prop} {e : DE} {cs cs1 cs2 cs4 : Cs} {pos p : Pos} {a x y : Expr} {ad : Addr} {b : Bag} {l : List Nat} {n k : Nat} {i : Int} (F : FormD X.prog X.w X.K X.mg X.base n k) (hr : Room k X.A) (ha : EE X M e cs a (.ref ad) cs) (hx : EE X M e cs x (.str (strOf l)) cs1) (hy : EE X M e cs1 y (.int i) cs2) (hi : i = n) (hu : Upd1 ad b.c (formF n b l).2.c cs2 cs4) (ok : b.Ok) (hp : CsOk l) (hg : Gl X "_law_form" := by rfl)
    (he : starEach [a, x, y] X.env = (false, eval a X.env) :: starEach [x, y] X.env := by rfl) (he2 : starEach [x, y] X.env = (false, eval x X.env) :: starEach [y] X.env := by rfl) (he3 : starEach [y] X.env = (false, eval y X.env) :: starEach [] X.env := by rfl) (hpl : (backTo pos (starEach [x, y] X.env)).any (·.1) = false := by rfl) : EE X M e cs (.Call (.Name "_law_form" p) [a, x, y] [] pos) (formF n b l).1.d cs4 :=
  e_call1 F hr (a_cons ha (a_cons hx (a_cons hy a_nil he3) he2) he) ⟨ad, b, l⟩ ⟨ok, hp⟩ (by rw [hi]) rfl rfl hu hg (by decide) he hpl
theorem ok_form {f : Addr} {fd : FuncData} (F : Fun K "_law_form" "_law_form" sForm f fd) (hm : mg "_law_form" = some (.ref f)) (hb : Binds K fd ["_law_bag", "_law_signs_here", "_law_deep"] []) (B : Blt mg) (D0 : DrawD P w K mg base 3) (D1 : LeafD P w K mg base 5) : ∀ n : Nat, FormD P w K mg base n (6 + n) := by
  intro n
  induction n with
  | zero =>
    refine dfn_of F hm scForm hb (fun i => rfl) fun cdv A outer s H0 E i M Q hp hr kq => ?_
    obtain ⟨ad, b, cs⟩ := i
    obtain ⟨ok, hc⟩ := hp
    dsimp only at ok hc kq
    refine at_set 3 (e_draw D0 (hr.mono (by decide)) (e_name 0 rfl) e_int .here ok (by decide)) ?_ scForm.nd
    refine at_if (t_ew (t_or (t_cmp (e_name 2 rfl) e_int (by walk_at "cd")) fun _ => t_or1 (t_cmp (e_name 3 rfl) e_int (by walk_at "cd")))) (fun g => ?_) fun g => ?_
    · exact at_end (e_leaf D1 hr (e_name 0 rfl) (e_name 1 rfl) .here (draw_ok ok _) hc) rfl (.head _) kq
    · simp at g
  | succ n ih =>
    refine dfn_of F hm scForm hb (fun i => rfl) fun cdv A outer s H0 E i M Q hp hr kq => ?_
    obtain ⟨ad, b, cs⟩ := i
    obtain ⟨ok, hc⟩ := hp
    dsimp only at ok hc kq
    have ok1 := draw_ok ok 9
    have ok2 := formF_ok n ok1 cs
    obtain ⟨l1, l2⟩ := draw_lo (b := b) (s := 9) (by decide)
    refine at_set 3 (e_draw D0 (hr.mono (by show _ ≤ 6 + n; omega)) (e_name 0 rfl) e_int .here ok (by decide)) ?_ scForm.nd
    refine at_if (t_ew (t_or (t_cmp (e_name 2 rfl) e_int (by walk_at "cd")) fun _ => t_or1 (t_cmp (e_name 3 rfl) e_int (by walk_at "cd")))) (fun g => ?_) fun g => at_nil ?_
    · have g' : (draw b 9).1 < 2 := by
        simp only [Bool.or_eq_true, decide_eq_true_eq] at g
        omega
      have e : formF (n + 1) b cs = leafF (draw b 9).2 cs := by
        conv => lhs; unfold formF
        exact if_pos g'
      rw [e] at kq
      exact at_end (e_leaf D1 (hr.mono (by show _ ≤ 6 + n; omega)) (e_name 0 rfl) (e_name 1 rfl) .here (draw_ok ok _) hc) rfl (.head _) kq
    · have g' : ¬ (draw b 9).1 < 2 := by
        simp only [Bool.or_eq_false_iff, decide_eq_false_iff_not] at g
        exact g.2
      refine at_set 4 (e_form ih (hr.mono (by show _ ≤ 6 + n; omega)) (e_name 0 rfl) (e_name 1 rfl) (e_bin (e_name 2 rfl) e_int (by walk_at "bd")) (by first | omega | (dsimp only; omega)) .here ok1 hc) ?_ scForm.nd
      refine at_if (t_cmp (e_name 3 rfl) e_int (by walk_at "cd")) (fun q => ?_) fun q => at_nil ?_
      · simp only [decide_eq_true_eq] at q
        have e : formF (n + 1) b cs = (.bin .im (formF n (draw b 9).2 cs).1 (.cst false), (formF n (draw b 9).2 cs).2) := by
          conv => lhs; unfold formF
          exact (if_neg g').trans (if_pos q)
        rw [e] at kq
        exact at_end (e_tup (a_cons e_str (a_cons (e_name 4 rfl) (a_cons (e_tup (a_cons e_str a_nil)) a_nil)))) rfl (.head _) kq
      · simp only [decide_eq_false_iff_not] at q
        have e : formF (n + 1) b cs = (.bin (opF (draw b 9).1) (formF n (draw b 9).2 cs).1 (formF n (formF n (draw b 9).2 cs).2 cs).1, (formF n (formF n (draw b 9).2 cs).2 cs).2) := by
          conv => lhs; unfold formF
          exact (if_neg g').trans (if_neg q)
        rw [e] at kq
        obtain ⟨w1, w2⟩ := word_at (draw b 9).1 (by omega) l2
        refine at_set 5 (e_ix (e_lst (a_cons e_str (a_cons e_str (a_cons e_str (a_cons e_str (a_cons e_str (a_cons e_str a_nil))))))) (e_bin (e_name 3 rfl) e_int (by walk_at "bd")) (xd_lst w1 w2)) ?_ scForm.nd
        exact at_end (e_tup (a_cons (e_name 5 rfl) (a_cons (e_name 4 rfl) (a_cons (e_form ih (hr.mono (by show _ ≤ 6 + n; omega)) (e_name 0 rfl) (e_name 1 rfl) (e_bin (e_name 2 rfl) e_int (by walk_at "bd")) (by first | omega | (dsimp only; omega)) .here ok2 hc) a_nil)))) rfl (.head _) kq
theorem Op.w_ne (o : Op) : decide (o.w = ("letter" : Str)) = false := by cases o <;> decide +kernel
theorem cw_ne (b : Bool) : decide (cw b = ("letter" : Str)) = false := by cases b <;> decide +kernel
theorem ok_inner {f : Addr} {fd : FuncData} (F : Fun K "_law_inner" "_law_inner" sInner f fd) (hm : mg "_law_inner" = some (.ref f)) (hb : Binds K fd ["_law_mine"] []) (B : Blt mg) : InnerD P w K mg base 2 := by
  refine dfn_of F hm scInner hb (fun i => rfl) fun cdv A outer s H0 E g M Q hp hr kq => ?_
  cases g with
  | cst b =>
    exact at_end (e_if (t_cmp (e_ix (e_name 0 rfl) e_int (xd_tup (j := 0) rfl rfl)) e_str (by walk_at "cd")) rfl (fun h => by rw [cw_ne] at h; cases h) (fun _ => e_bty kd_listT (a_cons (e_slice (e_name 0 rfl) (o_some e_int) o_none sd_tup) a_nil) B.list)) rfl (.head _) kq
  | le c =>
    exact at_end (e_if (t_cmp (e_ix (e_name 0 rfl) e_int (xd_tup (j := 0) rfl rfl)) e_str (by walk_at "cd")) rfl (fun h => e_lst a_nil) (fun h => by simp at h)) rfl (.head _) kq
  | bin o a b =>
    exact at_end (e_if (t_cmp (e_ix (e_name 0 rfl) e_int (xd_tup (j := 0) rfl rfl)) e_str (by walk_at "cd")) rfl (fun h => by rw [Op.w_ne] at h; cases h) (fun _ => e_bty kd_listT (a_cons (e_slice (e_name 0 rfl) (o_some e_int) o_none sd_tup) a_nil) B.list)) rfl (.head _) kq
end
end Od

set_option Elab.async false
set_option linter.all false
set_option maxRecDepth 100000
set_option maxHeartbeats 4000000
namespace Od
open PySem L2 TL PySem.Spec
abbrev sIsLet : Stmt := top 9
abbrev sLetIn : Stmt := top 10
abbrev sCls : Stmt := top 11
abbrev sIsForm : Stmt := top 12
abbrev sTextIn : Stmt := top 13
local macro_rules
  | `(tactic| walk_at "bd") => `(tactic| first | exact bd_add | exact bd_sub | exact bd_mulR (by decide) | exact bd_mulL (by decide) | exact bd_mod (by decide) | exact bd_div (by decide))
local macro_rules
  | `(tactic| walk_at "cd") => `(tactic| first | exact cd_lt | exact cd_le | exact cd_gt | exact cd_ge | exact cd_eqI | exact cd_eqS)
def isLet (s : Str) : Bool := match tl s with
  | [c] => decide (c ∈ alpha)
  | _ => false
/-- what the walk asks of the class and the module's names -/
structure FmT (w : World) (K : PySem.W.Frag) (mg : Str → Option Value) (C : Addr) : Prop where
  hm : mg "Formula" = some (.ref C)
  cl : Cls K C
  ci : ClsI K C
  kit : PySem.W.kitOne K (.ref C) (.ref C) = some true
  no : ∀ n ∈ fnames, NoAttr K C n
  al : ∃ u, mg "ALPHABET" = some u ∧ RelV (.str "abcdefghijklmnopqrstuvwxyz") u
  sig : ∃ pa, mg "SIGNS" = some (.ref pa) ∧ ∀ o : Op, KDct K w pa o.w (.str o.s)
section
variable (P : Program) (w : World) (K : PySem.W.Frag) (mg : Str → Option Value) (base : Heap)
abbrev IsLetD (k : Nat) : Prop := Dfn P w K mg base "is_letter" k (puSp K mg (fun s : Str => s.length ≤ 100000) (fun s => [.str s]) (fun s => .bl (isLet s)))
def letsOf (ts : List Str) : List Nat := alpha.filter fun c => ts.any fun t => decide (c ∈ tl t)
abbrev LetInD (k : Nat) : Prop := Dfn P w K mg base "letters_in" k (puSp K mg (fun ts : List Str => ts.length ≤ 1000) (fun ts => [.lst (ts.map D.str)]) (fun ts => .str (strOf (letsOf ts))))
abbrev PropD (n : Str) (res : Fm → D) (k : Nat) : Prop := Prp P w K mg base "Formula" n k (puSp K mg (fun _ : Fm => True) (fun f => [f.o]) res)
abbrev M0D (n : Str) (res : Fm → D) (k : Nat) : Prop := Mth P w K mg base "Formula" n k (puSp K mg (fun _ : Fm => True) (fun f => [f.o]) res)
abbrev IsFormD (k : Nat) : Prop := Dfn P w K mg base "is_form" k (puSp K mg (fun f : Fm => f.ok) (fun f => [.str f.w, .tup f.parts]) (fun f => .bl true))
abbrev TextInD (k : Nat) : Prop := Dfn P w K mg base "text_in" k (puSp K mg (fun f : Fm => f.sz ≤ 10000) (fun f => [.str f.w, .tup f.parts]) (fun f => .str f.t))
variable {P w K mg base}
theorem scIsLet : FnScope ["value"] ["value"] (defScope sIsLet) := ⟨rfl, rfl, rfl, by decide +kernel, rfl, by decide +kernel, by decide +kernel⟩
theorem scLetIn : FnScope ["texts", "sign", "text"] ["texts"] (defScope sLetIn) := ⟨rfl, rfl, rfl, by decide +kernel, rfl, by decide +kernel, by decide +kernel⟩
theorem scIsForm : FnScope ["word", "parts", "part"] ["word", "parts"] (defScope sIsForm) := ⟨rfl, rfl, rfl, by decide +kernel, rfl, by decide +kernel, by decide +kernel⟩
theorem scTextIn : FnScope ["word", "parts", "one", "other"] ["word", "parts"] (defScope sTextIn) := ⟨rfl, rfl, rfl, by decide +kernel, rfl, by decide +kernel, by decide +kernel⟩
theorem one_sign {s : Str} (h : decide ((s.length : Int) = 1) = true) : ∃ c, s = sg c := by
  have h1 : (tl s).length = 1 := by
    have := of_decide_eq_true h
    rw [← len_tl]; omega
  match q : tl s, h1 with
  | [c], _ => exact ⟨c, ext_tl q⟩
theorem isLet_no {s : Str} (h : decide ((s.length : Int) = 1) = false) : isLet s = false := by
  unfold isLet
  split
  · rename_i c q
    have : s.length = 1 := by rw [len_tl, q]; rfl
    simp [this] at h
  · rfl
theorem ok_isLet {f C : Addr} {fd : FuncData} (F : Fun K "is_letter" "is_letter" sIsLet f fd) (hm : mg "is_letter" = some (.ref f)) (hb : Binds K fd ["value"] []) (B : Blt mg) (T : FmT w K mg C) : IsLetD P w K mg base 2 := by
  refine dfn_of F hm scIsLet hb (fun i => rfl) fun cdv A outer s H0 E t M Q hp hr kq => ?_
  obtain ⟨u, h1, h2⟩ := T.al
  refine at_end (e_and (q0 := isLet t) (e_blt (kd_isi (t := "str") (n := "str") (b := true) rfl (by decide +kernel)) (a_cons (e_name 0 rfl) (a_cons (e_gty (t := "str") B.str) a_nil)) B.isinstance) fun _ => EE.eq (e_and (q0 := isLet t) (e_cmp (e_blt (kd_lenS (Nat.le_trans hp (by decide))) (a_cons (e_name 0 rfl) a_nil) B.len) e_int (by walk_at "cd")) fun h => e_one ?_) ?_) rfl (.head _) kq
  · obtain ⟨c, rfl⟩ := one_sign h
    exact (e_cmp (e_name 0 rfl) (e_gstr h1 h2) cd_inC).eq (by rw [show (Str.ofString "abcdefghijklmnopqrstuvwxyz").cps.toList = alpha from abc]; rfl)
  · cases h : decide ((t.length : Int) = 1) with
    | true => simp
    | false => rw [isLet_no h]; simp
theorem ok_letIn {f C : Addr} {fd : FuncData} (F : Fun K "letters_in" "letters_in" sLetIn f fd) (hm : mg "letters_in" = some (.ref f)) (hb : Binds K fd ["texts"] []) (B : Blt mg) (T : FmT w K mg C) : LetInD P w K mg base 2 := by
  refine dfn_of F hm scLetIn hb (fun i => rfl) fun cdv A outer s H0 E ts M Q hp hr kq => ?_
  obtain ⟨u, h1, h2⟩ := T.al
  have hlen : (letsOf ts).length ≤ 100000 := Nat.le_trans (List.length_filter_le _ _) (by decide)
  refine at_end (e_join (ts := (letsOf ts).map sg) (join_len0 _ hlen) e_str (EE.eq (e_lcFM [("sign", 1)] alpha (fun c => D.str (sg c)) (fun c => ts.any fun t => decide (c ∈ tl t)) (fun c => D.str (sg c))
    (EI.eq (ei_str (e_gstr h1 h2)) ?_) (ctg_name 1 scLetIn.nd (by decide) rfl) (fun _ _ => trivial) (by decide)
    (fun c hc M' hM s H C cl fp => ET.eq (t_val (e_blt (kd_any (bs := ts.map fun t => decide (c ∈ tl t))) (a_cons (EE.eq (e_lcM [("text", 2)] ts D.str (fun t => D.bl (decide (c ∈ tl t))) (ei_list (e_name 0 rfl)) (ctg_name 2 scLetIn.nd (by decide) rfl) (fun _ _ => trivial) (Nat.le_trans hp (by decide))
      (fun t ht M'' hM2 s2 H2 C2 cl2 fp2 => e_cmp (e_name 1 rfl) (e_name 2 rfl) cd_inC) (blkOk_by rfl) scLetIn.nd) (by simp)) a_nil) B.any)) (by simp [List.any_map, Function.comp_def]))
    (fun c hc q M' hM s H C cl fp => e_name 1 rfl) (blkOk_by rfl) scLetIn.nd) (by simp [letsOf]))) ?_ (.head _) kq
  · have : signs (Str.ofString "abcdefghijklmnopqrstuvwxyz") = alpha.map sg := by
      rw [← abc]; rfl
    rw [this]; simp
  · rw [join_sg]; rfl
theorem e_fp {X : Cx} {M : Addr → Prop} {e : DE} {cs cs1 : Cs} {pos : Pos} {a : Expr} {f : Fm} {n : Str} {res : Fm → D} {k : Nat} {d : D} (F : PropD X.prog X.w X.K X.mg X.base n res k) (hr : Room (k + 1) X.A) (ha : EE X M e cs a f.o cs1) (hd : res f = d := by rfl) (hb : attributeBase a n X.env (eval a X.env) = eval a X.env := by rfl) : EE X M e cs (.Attribute a n pos) d cs1 :=
  (e_prop F hr (ha.eq f.o_eq) f trivial (by rw [f.o_eq]) hb).eq hd
theorem e_fm {X : Cx} {M : Addr → Prop} {e : DE} {cs cs1 : Cs} {pos apos : Pos} {o : Expr} {f : Fm} {n : Str} {res : Fm → D} {k : Nat} {d : D} {pl : Sem Bool} (F : M0D X.prog X.w X.K X.mg X.base n res k) (hr : Room k X.A) (ho : EE X M e cs o f.o cs1) (hd : res f = d := by rfl) (hn : n ∉ fnames := by decide +kernel)
    (ht : eval (.Call (.Attribute o n apos) [] [] pos) X.env = (do
      let ov ← eval o X.env
      standAt apos.atName
      let (f, first) ← holding [ov] (getMethod ov n pl)
      callWith pos f first (backTo pos (starEach [] X.env)) (backToKw pos (keywordEach [] X.env))) := by rfl) : EE X M e cs (.Call (.Attribute o n apos) [] [] pos) d cs1 :=
  (e_meth0 F hr (ho.eq f.o_eq) hn f trivial (by rw [f.o_eq]) ht).eq hd
theorem w_le (f : Fm) (h : decide (f.w = ("letter" : Str)) = true) : ∃ c, f = .le c := by
  cases f with
  | le c => exact ⟨c, rfl⟩
  | cst b => rw [show (Fm.cst b).w = cw b from rfl, cw_ne] at h; cases h
  | bin o a b => rw [show (Fm.bin o a b).w = o.w from rfl, Op.w_ne] at h; cases h
theorem Op.noTF (o : Op) : (decide (o.w = ("true" : Str)) || decide (o.w = ("false" : Str))) = false := by cases o <;> decide +kernel
theorem Op.noF (o : Op) : decide (o.w = ("false" : Str)) = false := by cases o <;> decide +kernel
theorem Op.in3 (o : Op) : (decide (o.w = ("and" : Str)) || (decide (o.w = ("or" : Str)) || decide (o.w = ("if" : Str)))) = true := by cases o <;> decide +kernel
theorem isLet_sg {c : Nat} (h : c ∈ alpha) : isLet (sg c) = true := by simpa [isLet] using h
theorem ok_isForm {f C : Addr} {fd : FuncData} (F : Fun K "is_form" "is_form" sIsForm f fd) (hm : mg "is_form" = some (.ref f)) (hb : Binds K fd ["word", "parts"] []) (B : Blt mg) (T : FmT w K mg C) (L : IsLetD P w K mg base 2) : IsFormD P w K mg base 3 := by
  refine dfn_of F hm scIsForm hb (fun i => rfl) fun cdv A outer s H0 E g M Q hp hr kq => ?_
  refine at_if (t_cmp (e_name 0 rfl) e_str (by walk_at "cd")) (fun h => ?_) fun h => at_nil ?_
  · obtain ⟨c, rfl⟩ := w_le g h
    exact at_end (e_and (q0 := true) (e_cmp (k0 := true) (e_blt kd_lenT (a_cons (e_name 1 rfl) a_nil) B.len) e_int cd_eqI) fun _ => e_one ((e_call L hr (a_cons (e_ix (e_name 1 rfl) e_int (xd_tup (j := 0) rfl rfl)) a_nil) (sg c) (by show 1 ≤ 100000; decide) rfl).eq (by rw [isLet_sg hp]))) rfl (.head _) kq
  · cases g with
    | le c => simp [Fm.w] at h
    | cst b =>
      refine at_if (t_cmp (e_name 0 rfl) (e_tup (a_cons e_str (a_cons e_str a_nil))) cd_inT2) (fun _ => ?_) fun h2 => ?_
      · exact at_end (e_cmp (k0 := true) (e_blt kd_lenT (a_cons (e_name 1 rfl) a_nil) B.len) e_int cd_eqI) rfl (.head _) kq
      · cases b <;> exact absurd h2 (by decide +kernel)
    | bin o a b =>
      refine at_if (t_cmp (e_name 0 rfl) (e_tup (a_cons e_str (a_cons e_str a_nil))) cd_inT2) (fun h2 => ?_) fun _ => at_nil ?_
      · rw [show (Fm.bin o a b).w = o.w from rfl, Op.noTF] at h2; cases h2
      · refine at_end (e_and (q0 := true) ((e_cmp (e_name 0 rfl) (e_tup (a_cons e_str (a_cons e_str (a_cons e_str a_nil)))) cd_inT3).eq (y := .bl true) (congrArg D.bl (Op.in3 o))) fun _ => e_and (q0 := true) (e_cmp (k0 := true) (e_blt kd_lenT (a_cons (e_name 1 rfl) a_nil) B.len) e_int cd_eqI) fun _ => e_one (EE.eq (e_blt (kd_all (bs := [true, true])) (a_cons (EE.eq (e_lcM [("part", 2)] [a, b] Fm.o (fun _ => D.bl true)
          (ei_tup (e_name 1 rfl)) (ctg_name 2 scIsForm.nd (by decide) rfl) (fun _ _ => trivial) (by show 2 ≤ 100000; decide)
          (fun g hg M' hM s2 H2 C2 cl2 fp2 => e_blt (kd_isiOC T.hm T.ci T.kit) (a_cons ((e_name 2 rfl).eq g.o_eq) (a_cons (e_gref T.hm) a_nil)) B.isinstance) (blkOk_by rfl) scIsForm.nd) (by rfl)) a_nil) B.all) (by rfl))) rfl (.head _) kq
theorem ok_textIn {f C : Addr} {fd : FuncData} (F : Fun K "text_in" "text_in" sTextIn f fd) (hm : mg "text_in" = some (.ref f)) (hb : Binds K fd ["word", "parts"] []) (B : Blt mg) (T : FmT w K mg C) (PW : PropD P w K mg base "word" (fun f => .str f.w) 2) (PT : M0D P w K mg base "text" (fun f => .str f.t) 2) : TextInD P w K mg base 4 := by
  refine dfn_of F hm scTextIn hb (fun i => rfl) fun cdv A outer s H0 E g M Q hp hr kq => ?_
  refine at_if (t_cmp (e_name 0 rfl) e_str (by walk_at "cd")) (fun h => ?_) fun h => at_nil ?_
  · obtain ⟨c, rfl⟩ := w_le g h
    exact at_end (e_ix (e_name 1 rfl) e_int (xd_tup (j := 0) rfl rfl)) rfl (.head _) kq
  · cases g with
    | le c => simp [Fm.w] at h
    | cst b =>
      refine at_if (t_cmp (e_name 0 rfl) (e_tup (a_cons e_str (a_cons e_str a_nil))) cd_inT2) (fun _ => ?_) fun h2 => ?_
      · refine at_end (e_bty (kd_strI ?_) (a_cons (e_bty kd_intB (a_cons (e_cmp (e_name 0 rfl) e_str (by walk_at "cd")) a_nil) B.int) a_nil) B.str) ?_ (.head _) kq
        · split <;> decide
        · cases b <;> exact congrArg D.str (by decide +kernel)
      · cases b <;> exact absurd h2 (by decide +kernel)
    | bin o a b =>
      refine at_if (t_cmp (e_name 0 rfl) (e_tup (a_cons e_str (a_cons e_str a_nil))) cd_inT2) (fun h2 => ?_) fun _ => at_nil ?_
      · rw [show (Fm.bin o a b).w = o.w from rfl, Op.noTF] at h2; cases h2
      · obtain ⟨pa, sg1, sg2⟩ := T.sig
        have hs : (Fm.bin o a b).sz = 1 + (a.sz + b.sz) := rfl
        have ha := a.t_len
        have hb := b.t_len
        have hp' : (Fm.bin o a b).sz ≤ 10000 := hp
        have z : ∀ n : Nat, n ≤ 100000 → n ≤ sizeLine := fun n h => Nat.le_trans h (by decide)
        have l1 : (("-" : Str)).length = 1 := by decide +kernel
        have l2 : (("(" : Str)).length = 1 := by decide +kernel
        have l3 : ((")" : Str)).length = 1 := by decide +kernel
        have l4 : o.s.length ≤ 4 := by cases o <;> decide +kernel
        refine at_unp2 (x := a.o) (y := b.o) 2 3 (e_name 1 rfl) ?_ scTextIn.nd
        refine at_if (b0 := decide (o = .im ∧ b = .cst false)) (ET.eq (t_ew (t_and (t_cmp (e_name 0 rfl) e_str (by walk_at "cd")) fun _ => t_and1 (t_cmp (e_fp PW (hr.mono (by decide)) (e_name 3 rfl)) e_str (by walk_at "cd")))) ?_) (fun h => ?_) fun h => at_nil ?_
        · have h1 : decide (o.w = ("if" : Str)) = decide (o = .im) := by cases o <;> decide +kernel
          have h2 : decide (b.w = ("false" : Str)) = decide (b = .cst false) := by
            cases b with
            | cst c => cases c <;> decide +kernel
            | le c => rw [decide_eq_false (show ¬ Fm.le c = Fm.cst false from fun z => by cases z)]; exact (by decide +kernel : decide (("letter" : Str) = "false") = false)
            | bin o a b => rw [decide_eq_false (show ¬ Fm.bin o a b = Fm.cst false from fun z => by cases z)]; exact Op.noF o
          show (decide (o.w = ("if" : Str)) && decide (b.w = ("false" : Str))) = _
          rw [h1, h2]; simp
        · simp only [decide_eq_true_eq] at h
          have e : (Fm.bin o a b).t = ("-" : Str) ++ a.t := by
            conv => lhs; unfold Fm.t
            exact if_pos h
          refine at_end (e_bin e_str (e_fm PT (hr.mono (by decide)) (e_name 2 rfl)) (bd_addS (z _ (by omega)))) ?_ (.head _) kq
          rw [e]
        · simp only [decide_eq_false_iff_not] at h
          have e : (Fm.bin o a b).t = ("(" : Str) ++ a.t ++ o.s ++ b.t ++ (")" : Str) := by
            conv => lhs; unfold Fm.t
            exact if_neg h
          refine at_end (e_bin (e_bin (e_bin (e_bin e_str (e_fm PT (hr.mono (by decide)) (e_name 2 rfl)) (bd_addS (z _ (by omega)))) (e_ix (e_gref sg1) (e_name 0 rfl) (xd_kd (sg2 o))) (bd_addS (z _ (by rw [len_app]; omega)))) (e_fm PT (hr.mono (by decide)) (e_name 3 rfl)) (bd_addS (z _ (by rw [len_app, len_app]; omega)))) e_str (bd_addS (z _ (by rw [len_app, len_app, len_app]; omega)))) ?_ (.head _) kq
          rw [e]
end
end Od

set_option Elab.async false
set_option linter.all false
set_option maxRecDepth 100000
set_option maxHeartbeats 4000000
namespace Od
open PySem L2 TL PySem.Spec
abbrev sInit : Stmt := inClass sCls 1
abbrev sLetter : Stmt := inClass sCls 2
abbrev sTrue : Stmt := inClass sCls 3
abbrev sFalse : Stmt := inClass sCls 4
abbrev sParts : Stmt := inClass sCls 12
abbrev sText : Stmt := inClass sCls 13
abbrev sNeg : Stmt := inClass sCls 19
abbrev sEq : Stmt := inClass sCls 20
local macro_rules
  | `(tactic| walk_at "bd") => `(tactic| first | exact bd_add | exact bd_sub | exact bd_mulR (by decide) | exact bd_mulL (by decide) | exact bd_mod (by decide) | exact bd_div (by decide))
local macro_rules
  | `(tactic| walk_at "cd") => `(tactic| first | exact cd_lt | exact cd_le | exact cd_gt | exact cd_ge | exact cd_eqI | exact cd_eqS)
section
variable {P : Program} {w : World} {K : PySem.W.Frag} {mg : Str → Option Value} {base : Heap}
theorem e_f {X : Cx} {M : Addr → Prop} {e : DE} {cs cs1 : Cs} {pos : Pos} {a : Expr} {f : Fm} {n : Str} {C : Addr} {d : D} (T : FmT X.w X.K X.mg C) (i : Nat) (ha : EE X M e cs a f.o cs1) (hd : f.fs[i]? = some d) (hi : fnames.idxOf? n = some i := by decide +kernel) (hn : n ∈ fnames := by decide +kernel) (hb : attributeBase a n X.env (eval a X.env) = eval a X.env := by rfl) : EE X M e cs (.Attribute a n pos) d cs1 :=
  e_fld (ha.eq f.o_eq) T.hm T.cl (T.no _ hn) i hi hd hb
abbrev s_word : Stmt := inClass sCls 7
theorem sc_word : FnScope ["self"] ["self"] (defScope s_word) := ⟨rfl, rfl, rfl, by decide +kernel, rfl, by decide +kernel, by decide +kernel⟩
theorem ok_word {f C : Addr} {fd : FuncData} (F : Fun K "word" "Formula.word" s_word f fd) (hC : ∃ C p, mg "Formula" = some (.ref C) ∧ Cls K C ∧ PropOf K C "word" p f) (hb : Binds K fd ["self"] []) (T : FmT w K mg C) : PropD P w K mg base "word" (fun f => .str f.w) 1 := by
  refine prp_of hC F sc_word hb (fun i => rfl) fun cdv A outer s H0 E g M Q hp hr kq => ?_
  exact at_end (e_f T 0 (e_name 0 rfl) rfl) rfl (.head _) kq
abbrev s_letters : Stmt := inClass sCls 8
theorem sc_letters : FnScope ["self"] ["self"] (defScope s_letters) := ⟨rfl, rfl, rfl, by decide +kernel, rfl, by decide +kernel, by decide +kernel⟩
theorem ok_letters {f C : Addr} {fd : FuncData} (F : Fun K "letters" "Formula.letters" s_letters f fd) (hC : ∃ C p, mg "Formula" = some (.ref C) ∧ Cls K C ∧ PropOf K C "letters" p f) (hb : Binds K fd ["self"] []) (T : FmT w K mg C) : PropD P w K mg base "letters" (fun f => .str f.l) 1 := by
  refine prp_of hC F sc_letters hb (fun i => rfl) fun cdv A outer s H0 E g M Q hp hr kq => ?_
  exact at_end (e_f T 6 (e_name 0 rfl) rfl) rfl (.head _) kq
abbrev s_size : Stmt := inClass sCls 9
theorem sc_size : FnScope ["self"] ["self"] (defScope s_size) := ⟨rfl, rfl, rfl, by decide +kernel, rfl, by decide +kernel, by decide +kernel⟩
theorem ok_size {f C : Addr} {fd : FuncData} (F : Fun K "size" "Formula.size" s_size f fd) (hC : ∃ C p, mg "Formula" = some (.ref C) ∧ Cls K C ∧ PropOf K C "size" p f) (hb : Binds K fd ["self"] []) (T : FmT w K mg C) : PropD P w K mg base "size" (fun f => .int (f.sz : Nat)) 1 := by
  refine prp_of hC F sc_size hb (fun i => rfl) fun cdv A outer s H0 E g M Q hp hr kq => ?_
  exact at_end (e_f T 3 (e_name 0 rfl) rfl) rfl (.head _) kq
abbrev s_nested : Stmt := inClass sCls 10
theorem sc_nested : FnScope ["self"] ["self"] (defScope s_nested) := ⟨rfl, rfl, rfl, by decide +kernel, rfl, by decide +kernel, by decide +kernel⟩
theorem ok_nested {f C : Addr} {fd : FuncData} (F : Fun K "nested" "Formula.nested" s_nested f fd) (hC : ∃ C p, mg "Formula" = some (.ref C) ∧ Cls K C ∧ PropOf K C "nested" p f) (hb : Binds K fd ["self"] []) (T : FmT w K mg C) : PropD P w K mg base "nested" (fun f => .int (f.nest : Nat)) 1 := by
  refine prp_of hC F sc_nested hb (fun i => rfl) fun cdv A outer s H0 E g M Q hp hr kq => ?_
  exact at_end (e_f T 4 (e_name 0 rfl) rfl) rfl (.head _) kq
abbrev s_depth : Stmt := inClass sCls 11
theorem sc_depth : FnScope ["self"] ["self"] (defScope s_depth) := ⟨rfl, rfl, rfl, by decide +kernel, rfl, by decide +kernel, by decide +kernel⟩
theorem ok_depth {f C : Addr} {fd : FuncData} (F : Fun K "depth" "Formula.depth" s_depth f fd) (hC : ∃ C p, mg "Formula" = some (.ref C) ∧ Cls K C ∧ PropOf K C "depth" p f) (hb : Binds K fd ["self"] []) (T : FmT w K mg C) : PropD P w K mg base "depth" (fun f => .int (f.dep : Nat)) 1 := by
  refine prp_of hC F sc_depth hb (fun i => rfl) fun cdv A outer s H0 E g M Q hp hr kq => ?_
  exact at_end (e_f T 5 (e_name 0 rfl) rfl) rfl (.head _) kq
theorem scText : FnScope ["self"] ["self"] (defScope sText) := ⟨rfl, rfl, rfl, by decide +kernel, rfl, by decide +kernel, by decide +kernel⟩
theorem scParts : FnScope ["self"] ["self"] (defScope sParts) := ⟨rfl, rfl, rfl, by decide +kernel, rfl, by decide +kernel, by decide +kernel⟩
theorem ok_text {f C : Addr} {fd : FuncData} (F : Fun K "text" "Formula.text" sText f fd) (hC : ∃ C, mg "Formula" = some (.ref C) ∧ Cls K C ∧ Meth K C "text" f) (hb : Binds K fd ["self"] []) (T : FmT w K mg C) : M0D P w K mg base "text" (fun f => .str f.t) 1 := by
  refine mth_of hC F scText hb (fun i => rfl) fun cdv A outer s H0 E g M Q hp hr kq => ?_
  exact at_end (e_f T 2 (e_name 0 rfl) rfl) rfl (.head _) kq
theorem ok_parts {f C : Addr} {fd : FuncData} (F : Fun K "parts" "Formula.parts" sParts f fd) (hC : ∃ C, mg "Formula" = some (.ref C) ∧ Cls K C ∧ Meth K C "parts" f) (hb : Binds K fd ["self"] []) (B : Blt mg) (T : FmT w K mg C) : M0D P w K mg base "parts" (fun f => .lst (f.inner.map Fm.o)) 1 := by
  refine mth_of hC F scParts hb (fun i => rfl) fun cdv A outer s H0 E g M Q hp hr kq => ?_
  refine at_end (e_if (x := .lst (g.inner.map Fm.o)) (t_cmp (e_f T 0 (e_name 0 rfl) rfl) e_str (by walk_at "cd")) rfl (fun h => ?_) fun h => ?_) rfl (.head _) kq
  · obtain ⟨c, rfl⟩ := w_le g h
    exact EE.eq (x := .lst []) (e_lst a_nil) rfl
  · refine EE.eq (e_bty kd_listL (a_cons (e_f T 1 (e_name 0 rfl) rfl) a_nil) B.list) ?_
    cases g with
    | le c => simp [Fm.w] at h
    | _ => rfl
/-! ### __init__ -/
theorem sz_eq (f : Fm) : (1 : Int) + (f.inner.map fun g => (g.sz : Int)).sum = (f.sz : Nat) := by
  cases f <;> simp [Fm.inner, Fm.sz] <;> omega
theorem nest_eq (f : Fm) : (1 : Int) + maxDI 0 (f.inner.map fun g => (g.nest : Int)) = (f.nest : Nat) := by
  cases f with
  | bin o a b => simp [Fm.inner, Fm.nest, maxDI, maxI]; omega
  | _ => rfl
theorem dep_eq (f : Fm) : (if decide (f.w = ("if" : Str)) = true then (1 : Int) else 0) + maxDI 0 (f.inner.map fun g => (g.dep : Int)) = (f.dep : Nat) := by
  cases f with
  | cst b =>
    have : decide ((Fm.cst b).w = ("if" : Str)) = false := by cases b <;> decide +kernel
    rw [this]; rfl
  | le c =>
    have : decide ((("letter" : Str)) = ("if" : Str)) = false := by decide +kernel
    show (if decide ((("letter" : Str)) = ("if" : Str)) = true then (1 : Int) else 0) + _ = _
    rw [this]; rfl
  | bin o a b =>
    have : decide ((Fm.bin o a b).w = ("if" : Str)) = decide (o = .im) := by
      show decide (o.w = ("if" : Str)) = _
      cases o <;> decide +kernel
    rw [this]
    simp only [Fm.inner, List.map_cons, List.map_nil, maxDI, maxI, Fm.dep, decide_eq_true_eq]
    split <;> push_cast <;> omega
theorem one_l : ∀ c ∈ alpha, alpha.filter (fun x => decide (x = c)) = [c] := by decide +kernel
theorem l_le {c : Nat} (h : c ∈ alpha) : (Fm.le c).l = sg c := by
  apply ext_tl
  show alpha.filter (fun x => decide (x = c)) = [c]
  exact one_l c h
theorem l_in (f : Fm) (h : ∀ c, f ≠ .le c) : strOf (letsOf (f.inner.map Fm.l)) = f.l := by
  apply ext_tl
  rw [show tl (strOf (letsOf (f.inner.map Fm.l))) = letsOf (f.inner.map Fm.l) from rfl, tl_l]
  unfold letsOf
  apply List.filter_congr
  intro c hc
  cases f with
  | le c => exact absurd rfl (h c)
  | cst b => rfl
  | bin o a b =>
    show (decide (c ∈ tl a.l) || (decide (c ∈ tl b.l) || false)) = (a.has c || b.has c)
    rw [tl_l, tl_l]
    simp [List.mem_filter, hc]
abbrev MkF (P : Program) (w : World) (K : PySem.W.Frag) (mg : Str → Option Value) (base : Heap) (k : Nat) : Prop := Mkr P w K mg base "Formula" k (mkSp K mg "Formula" (fun f : Fm => f.ok ∧ f.sz ≤ 10000) (fun f => [.str f.w] ++ f.parts) fnames Fm.fs)
theorem scInit : FnScope ["self", "word", "parts", "inner", "part"] ((["self", "word"] : List Str) ++ (["parts"] : List Str)) (defScope sInit) := ⟨rfl, rfl, rfl, by decide +kernel, rfl, by decide +kernel, by decide +kernel⟩
theorem ok_init {f C : Addr} {fd : FuncData} (F : Fun K "__init__" "Formula.__init__" sInit f fd) (hC : ∃ C, mg "Formula" = some (.ref C) ∧ Mk K C f) (B : Blt mg) (T : FmT w K mg C) (IF : IsFormD P w K mg base 3) (TI : TextInD P w K mg base 4) (LI : LetInD P w K mg base 2)
    (PL : PropD P w K mg base "letters" (fun f => .str f.l) 1) (PS : PropD P w K mg base "size" (fun f => .int (f.sz : Nat)) 1) (PN : PropD P w K mg base "nested" (fun f => .int (f.nest : Nat)) 1) (PD : PropD P w K mg base "depth" (fun f => .int (f.dep : Nat)) 1) : MkF P w K mg base 5 := by
  refine mkr_star (ps := ["self", "word"]) (pv := "parts") (heads := fun f : Fm => [.str f.w]) (parts := Fm.parts) hC F scInit (fun _ _ _ _ _ _ us rest hl => match us, rest, hl with
    | [_, _], [], _ => rfl
    | [_, _], _ :: _, _ => rfl) (fun i => rfl) (fun i _ => by cases i <;> simp [Fm.parts]) fun cdv A outer s H0 E g M ad Q hp hr kq nm => ?_
  obtain ⟨hok, hsz⟩ := hp
  have il : g.inner.length ≤ 2 := by cases g <;> simp [Fm.inner]
  refine at_if (b0 := false) (cs1 := [(ad, .obj "Formula" [] [])]) ?_ (fun h => by cases h) (fun _ => at_nil ?_)
  · exact t_not (k0 := true) (t_val (EE.eq (e_call IF (hr.mono (show 3 ≤ 4 by decide)) (a_cons (e_name 1 rfl) (a_cons (e_name 2 rfl) a_nil)) g hok rfl) rfl))
  refine at_fldN (e_name 1 rfl) (e_name 0 rfl) T.hm T.cl (T.no _ (by decide +kernel)) (by decide) (by decide +kernel) .here ?_
  refine at_fldN (e_bty kd_listT (a_cons (e_name 2 rfl) a_nil) B.list) (e_name 0 rfl) T.hm T.cl (T.no _ (by decide +kernel)) (by decide) (by decide +kernel) .here ?_
  refine at_fldN (EE.eq (e_call TI (hr.mono (show 4 ≤ 4 by decide)) (a_cons (e_name 1 rfl) (a_cons (e_name 2 rfl) a_nil)) g hsz rfl) rfl) (e_name 0 rfl) T.hm T.cl (T.no _ (by decide +kernel)) (by decide) (by decide +kernel) .here ?_
  refine at_set 3 (d := .lst (g.inner.map Fm.o)) (e_if (t_cmp (e_name 1 rfl) e_str (by walk_at "cd")) rfl (fun h => by
      obtain ⟨c, rfl⟩ := w_le g h
      exact EE.eq (x := .lst []) (e_lst a_nil) rfl) (fun h => EE.eq (e_fldc (e_name 0 rfl) (.head _) T.hm T.cl (T.no _ (by decide +kernel)) 1 (by decide +kernel) rfl) (by
        cases g with
        | le c => simp [Fm.w] at h
        | _ => rfl))) ?_ scInit.nd
  refine at_fldN (d := .int (g.sz : Nat)) (EE.eq (e_bin e_int (e_blt (kd_sum (ns := g.inner.map fun g => (g.sz : Int))) (a_cons (EE.eq (e_lcM [("part", 4)] g.inner Fm.o (fun g => D.int (g.sz : Nat)) (ei_list (e_name 3 rfl)) (ctg_name 4 scInit.nd (by decide) rfl) (fun _ _ => trivial) (by omega)
      (fun g hg M' hM s2 H2 C2 cl2 fp2 => e_fp PS (hr.mono (by decide)) (e_name 4 rfl)) (blkOk_by rfl) scInit.nd) (by simp)) a_nil) B.sum) (by walk_at "bd")) (by rw [sz_eq])) (e_name 0 rfl) T.hm T.cl (T.no _ (by decide +kernel)) (by decide) (by decide +kernel) .here ?_
  refine at_fldN (d := .int (g.nest : Nat)) (EE.eq (e_bin e_int (e_maxD (ns := g.inner.map fun g => (g.nest : Int)) (hk := fun t h => pk_cons h pk_nil) (EE.eq (e_lcM [("part", 4)] g.inner Fm.o (fun g => D.int (g.nest : Nat)) (ei_list (e_name 3 rfl)) (ctg_name 4 scInit.nd (by decide) rfl) (fun _ _ => trivial) (by omega)
      (fun g hg M' hM s2 H2 C2 cl2 fp2 => e_fp PN (hr.mono (by decide)) (e_name 4 rfl)) (blkOk_by rfl) scInit.nd) (by simp)) e_int B.max) (by walk_at "bd")) (by rw [nest_eq])) (e_name 0 rfl) T.hm T.cl (T.no _ (by decide +kernel)) (by decide) (by decide +kernel) .here ?_
  refine at_fldN (d := .int (g.dep : Nat)) (EE.eq (e_bin (e_bty kd_intB (a_cons (e_cmp (e_name 1 rfl) e_str (by walk_at "cd")) a_nil) B.int) (e_maxD (ns := g.inner.map fun g => (g.dep : Int)) (hk := fun t h => pk_cons h pk_nil) (EE.eq (e_lcM [("part", 4)] g.inner Fm.o (fun g => D.int (g.dep : Nat)) (ei_list (e_name 3 rfl)) (ctg_name 4 scInit.nd (by decide) rfl) (fun _ _ => trivial) (by omega)
      (fun g hg M' hM s2 H2 C2 cl2 fp2 => e_fp PD (hr.mono (by decide)) (e_name 4 rfl)) (blkOk_by rfl) scInit.nd) (by simp)) e_int B.max) (by walk_at "bd")) (by rw [dep_eq])) (e_name 0 rfl) T.hm T.cl (T.no _ (by decide +kernel)) (by decide) (by decide +kernel) .here ?_
  refine at_fldN (d := .str g.l) (e_if (t_cmp (e_name 1 rfl) e_str (by walk_at "cd")) rfl (fun h => by
      obtain ⟨c, rfl⟩ := w_le g h
      exact EE.eq (e_ix (e_name 2 rfl) e_int (xd_tup (j := 0) rfl rfl)) (by rw [l_le hok])) (fun h => EE.eq (e_call LI (hr.mono (by decide)) (a_cons (e_lcM [("part", 4)] g.inner Fm.o (fun g => D.str g.l) (ei_list (e_name 3 rfl)) (ctg_name 4 scInit.nd (by decide) rfl) (fun _ _ => trivial) (by omega)
      (fun g hg M' hM s2 H2 C2 cl2 fp2 => e_fp PL (hr.mono (by decide)) (e_name 4 rfl)) (blkOk_by rfl) scInit.nd) a_nil) (g.inner.map Fm.l) (by simp; omega) (by simp)) (by
        rw [l_in]
        rintro c rfl
        simp [Fm.w] at h))) (e_name 0 rfl) T.hm T.cl (T.no _ (by decide +kernel)) (by decide) (by decide +kernel) .here ?_
  exact at_endI (.head _) rfl nm kq fun _ _ h => h
end
end Od

set_option Elab.async false
set_option linter.all false
set_option maxRecDepth 100000
set_option maxHeartbeats 4000000
namespace Od
open PySem L2 TL PySem.Spec
abbrev sSame : Stmt := top 22
abbrev sMade : Stmt := top 28
abbrev sSize : Stmt := top 29
abbrev sNested : Stmt := top 30
local macro_rules
  | `(tactic| walk_at "bd") => `(tactic| first | exact bd_add | exact bd_sub | exact bd_mulR (by decide) | exact bd_mulL (by decide) | exact bd_mod (by decide) | exact bd_div (by decide))
local macro_rules
  | `(tactic| walk_at "cd") => `(tactic| first | exact cd_lt | exact cd_le | exact cd_gt | exact cd_ge | exact cd_eqI | exact cd_eqS)
section
variable {P : Program} {w : World} {K : PySem.W.Frag} {mg : Str → Option Value} {base : Heap}
theorem e_mk {X : Cx} {M : Addr → Prop} {e : DE} {cs cs1 : Cs} {pos p : Pos} {a : Expr} {es : List Expr} {ds : List D} {k : Nat} {d : D} (F : MkF X.prog X.w X.K X.mg X.base k) (hr : Room (k + 1) X.A) (ha : EA X M e cs (a :: es) ds cs1) (g : Fm) (hp : g.ok ∧ g.sz ≤ 10000) (hds : ds = [.str g.w] ++ g.parts) (hd : g.o = d := by rfl) (hg : Gl X "Formula" := by rfl)
    (he : starEach (a :: es) X.env = (false, eval a X.env) :: starEach es X.env := by rfl) (hpl : (backTo pos (starEach es X.env)).any (·.1) = false := by rfl) : EE X M e cs (.Call (.Name "Formula" p) (a :: es) [] pos) d cs1 :=
  (e_make F hr ha g hp hds hg (by decide) he hpl).eq (g.o_eq.symm.trans hd)
abbrev NegD (P : Program) (w : World) (K : PySem.W.Frag) (mg : Str → Option Value) (base : Heap) (k : Nat) : Prop := Dun P w K mg base "Formula" "__neg__" k (puSp K mg (fun f : Fm => f.ok ∧ f.sz ≤ 9998) (fun f => [f.o]) (fun f => (Fm.bin .im f (.cst false)).o))
abbrev EqD (P : Program) (w : World) (K : PySem.W.Frag) (mg : Str → Option Value) (base : Heap) (k : Nat) : Prop := Dun P w K mg base "Formula" "__eq__" k (puSp K mg (fun p : Fm × Fm => True) (fun p => [p.1.o, p.2.o]) (fun p => .bl (decide (p.1.t = p.2.t))))
abbrev LetterD (P : Program) (w : World) (K : PySem.W.Frag) (mg : Str → Option Value) (base : Heap) (k : Nat) : Prop := Stc P w K mg base "Formula" "letter" k (puSp K mg (fun c : Nat => c ∈ alpha) (fun c => [.str (sg c)]) (fun c => (Fm.le c).o))
abbrev CstD (P : Program) (w : World) (K : PySem.W.Frag) (mg : Str → Option Value) (base : Heap) (n : Str) (b : Bool) (k : Nat) : Prop := Stc P w K mg base "Formula" n k (puSp K mg (fun _ : Unit => True) (fun _ => []) (fun _ => (Fm.cst b).o))
theorem scNeg : FnScope ["self"] ["self"] (defScope sNeg) := ⟨rfl, rfl, rfl, by decide +kernel, rfl, by decide +kernel, by decide +kernel⟩
theorem scEq : FnScope ["self", "other"] ["self", "other"] (defScope sEq) := ⟨rfl, rfl, rfl, by decide +kernel, rfl, by decide +kernel, by decide +kernel⟩
theorem scLetter : FnScope ["name"] ["name"] (defScope sLetter) := ⟨rfl, rfl, rfl, by decide +kernel, rfl, by decide +kernel, by decide +kernel⟩
theorem scTrue : FnScope [] [] (defScope sTrue) := ⟨rfl, rfl, rfl, by decide +kernel, rfl, by decide +kernel, by decide +kernel⟩
theorem scFalse : FnScope [] [] (defScope sFalse) := ⟨rfl, rfl, rfl, by decide +kernel, rfl, by decide +kernel, by decide +kernel⟩
theorem ok_neg {f : Addr} {fd : FuncData} (F : Fun K "__neg__" "Formula.__neg__" sNeg f fd) (hC : ∃ C, mg "Formula" = some (.ref C) ∧ PySem.W.findIn K (.ref C) "__neg__" = some (some (.ref f)) ∧ PySem.W.isFn K (.ref f) = true) (hb : Binds K fd ["self"] []) (MK : MkF P w K mg base 5) : NegD P w K mg base 7 := by
  refine dun_of hC F scNeg hb (fun i => rfl) fun cdv A outer s H0 E g M Q hp hr kq => ?_
  exact at_end (e_mk MK hr (a_cons e_str (a_cons (e_name 0 rfl) (a_cons (e_mk MK hr (a_cons e_str a_nil) (.cst false) ⟨trivial, by decide⟩ rfl) a_nil))) (.bin .im g (.cst false)) ⟨⟨hp.1, trivial⟩, by have := hp.2; simp only [Fm.sz]; omega⟩ rfl) rfl (.head _) kq
theorem ok_eq {f C : Addr} {fd : FuncData} (F : Fun K "__eq__" "Formula.__eq__" sEq f fd) (hC : ∃ C, mg "Formula" = some (.ref C) ∧ PySem.W.findIn K (.ref C) "__eq__" = some (some (.ref f)) ∧ PySem.W.isFn K (.ref f) = true) (hb : Binds K fd ["self", "other"] []) (B : Blt mg) (T : FmT w K mg C) : EqD P w K mg base 2 := by
  refine dun_of hC F scEq hb (fun i => rfl) fun cdv A outer s H0 E g M Q hp hr kq => ?_
  obtain ⟨g1, g2⟩ := g
  exact at_end (e_and (p0 := true) (q0 := decide (g1.t = g2.t)) (e_blt (kd_isiOC T.hm T.ci T.kit) (a_cons ((e_name 1 rfl).eq g2.o_eq) (a_cons (e_gref T.hm) a_nil)) B.isinstance) fun _ => e_one (e_cmp (e_f T 2 (e_name 0 rfl) rfl) (e_f T 2 (e_name 1 rfl) rfl) (by walk_at "cd"))) rfl (.head _) kq
theorem ok_letter {f : Addr} {fd : FuncData} (F : Fun K "letter" "Formula.letter" sLetter f fd) (hC : ∃ C mc, mg "Formula" = some (.ref C) ∧ ClX.CRead K C mc ∧ CStm K C mc "letter" f) (hb : Binds K fd ["name"] []) (L : IsLetD P w K mg base 2) (MK : MkF P w K mg base 5) : LetterD P w K mg base 7 := by
  refine stc_of hC F scLetter hb (fun i => rfl) fun cdv A outer s H0 E c M Q hp hr kq => ?_
  refine at_if (b0 := false) (cs1 := []) ?_ (fun h => by cases h) (fun _ => at_nil ?_)
  · exact t_not (k0 := true) (t_val (EE.eq (e_call L (hr.mono (show 2 ≤ 6 by decide)) (a_cons (e_name 0 rfl) a_nil) (sg c) (by show 1 ≤ 100000; decide) rfl) (by rw [isLet_sg hp])))
  · exact at_end (e_mk MK hr (a_cons e_str (a_cons (e_name 0 rfl) a_nil)) (.le c) ⟨hp, by show 1 ≤ 10000; decide⟩ rfl) rfl (.head _) kq
theorem ok_true {f : Addr} {fd : FuncData} (F : Fun K "true" "Formula.true" sTrue f fd) (hC : ∃ C mc, mg "Formula" = some (.ref C) ∧ ClX.CRead K C mc ∧ CStm K C mc "true" f) (hb : Binds K fd [] []) (MK : MkF P w K mg base 5) : CstD P w K mg base "true" true 7 := by
  refine stc_of hC F scTrue hb (fun i => rfl) fun cdv A outer s H0 E c M Q hp hr kq => ?_
  exact at_end (e_mk MK hr (a_cons e_str a_nil) (.cst true) ⟨trivial, by decide⟩ rfl) rfl (.head _) kq
theorem ok_false {f : Addr} {fd : FuncData} (F : Fun K "false" "Formula.false" sFalse f fd) (hC : ∃ C mc, mg "Formula" = some (.ref C) ∧ ClX.CRead K C mc ∧ CStm K C mc "false" f) (hb : Binds K fd [] []) (MK : MkF P w K mg base 5) : CstD P w K mg base "false" false 7 := by
  refine stc_of hC F scFalse hb (fun i => rfl) fun cdv A outer s H0 E c M Q hp hr kq => ?_
  exact at_end (e_mk MK hr (a_cons e_str a_nil) (.cst false) ⟨trivial, by decide⟩ rfl) rfl (.head _) kq
/-! ### the law's own -/
abbrev MadeD (P : Program) (w : World) (K : PySem.W.Frag) (mg : Str → Option Value) (base : Heap) (n k : Nat) : Prop := Dfn P w K mg base "_law_made" k (puSp K mg (fun f : Fm => f.ok ∧ f.sz ≤ 10000 ∧ f.nest ≤ n) (fun f => [f.d]) (fun f => f.o))
theorem scMade : FnScope ["_law_mine"] ["_law_mine"] (defScope sMade) := ⟨rfl, rfl, rfl, by decide +kernel, rfl, by decide +kernel, by decide +kernel⟩
theorem nest_pos (f : Fm) : 1 ≤ f.nest := by cases f <;> simp [Fm.nest]
theorem cw_TF (b : Bool) : (decide (cw b = ("true" : Str)) || decide (cw b = ("false" : Str))) = true := by cases b <;> decide +kernel
theorem ok_made {f : Addr} {fd : FuncData} (F : Fun K "_law_made" "_law_made" sMade f fd) (hm : mg "_law_made" = some (.ref f)) (hb : Binds K fd ["_law_mine"] []) (MK : MkF P w K mg base 5) : ∀ n, MadeD P w K mg base n (7 + n) := by
  intro n
  induction n with
  | zero => exact dfn_of F hm scMade hb (fun i => rfl) fun cdv A outer s H0 E g M Q hp hr kq => absurd hp.2.2 (by have := nest_pos g; omega)
  | succ n ih =>
    refine dfn_of F hm scMade hb (fun i => rfl) fun cdv A outer s H0 E g M Q hp hr kq => ?_
    obtain ⟨hok, hsz, hn⟩ := hp
    have hr6 : Room 6 _ := hr.mono (show 6 ≤ 7 + n by omega)
    cases g with
    | le c =>
      refine at_if (t_cmp (e_ix (e_name 0 rfl) e_int (xd_tup (j := 0) rfl rfl)) e_str (by walk_at "cd")) (fun _ => ?_) fun h => by simp at h
      exact at_end (e_mk MK hr6 (a_cons e_str (a_cons (e_ix (e_name 0 rfl) e_int (xd_tup (j := 1) rfl rfl)) a_nil)) (.le c) ⟨hok, hsz⟩ rfl) rfl (.head _) kq
    | cst b =>
      refine at_if (t_cmp (e_ix (e_name 0 rfl) e_int (xd_tup (j := 0) rfl rfl)) e_str (by walk_at "cd")) (fun h => by rw [cw_ne] at h; cases h) fun _ => at_nil ?_
      refine at_if (t_cmp (e_ix (e_name 0 rfl) e_int (xd_tup (j := 0) rfl rfl)) (e_tup (a_cons e_str (a_cons e_str a_nil))) cd_inT2) (fun _ => ?_) fun h => by rw [cw_TF] at h; cases h
      exact at_end (e_mk MK hr6 (a_cons (e_ix (e_name 0 rfl) e_int (xd_tup (j := 0) rfl rfl)) a_nil) (.cst b) ⟨hok, hsz⟩ rfl) rfl (.head _) kq
    | bin o a b =>
      have hs : (Fm.bin o a b).sz = 1 + (a.sz + b.sz) := rfl
      have ht : (Fm.bin o a b).nest = 1 + max a.nest b.nest := rfl
      refine at_if (t_cmp (e_ix (e_name 0 rfl) e_int (xd_tup (j := 0) rfl rfl)) e_str (by walk_at "cd")) (fun h => by rw [Op.w_ne] at h; cases h) fun _ => at_nil ?_
      refine at_if (t_cmp (e_ix (e_name 0 rfl) e_int (xd_tup (j := 0) rfl rfl)) (e_tup (a_cons e_str (a_cons e_str a_nil))) cd_inT2) (fun h => by rw [Op.noTF] at h; cases h) fun _ => at_nil ?_
      exact at_end (e_mk MK hr6 (a_cons (e_ix (e_name 0 rfl) e_int (xd_tup (j := 0) rfl rfl)) (a_cons (e_call ih hr (a_cons (e_ix (e_name 0 rfl) e_int (xd_tup (j := 1) rfl rfl)) a_nil) a ⟨hok.1, by omega, by omega⟩ rfl) (a_cons (e_call ih hr (a_cons (e_ix (e_name 0 rfl) e_int (xd_tup (j := 2) rfl rfl)) a_nil) b ⟨hok.2, by omega, by omega⟩ rfl) a_nil))) (.bin o a b) ⟨hok, hsz⟩ rfl) rfl (.head _) kq
abbrev RecD (P : Program) (w : World) (K : PySem.W.Frag) (mg : Str → Option Value) (base : Heap) (x : Str) (res : Fm → D) (n k : Nat) : Prop := Dfn P w K mg base x k (puSp K mg (fun f : Fm => f.nest ≤ n) (fun f => [f.d]) res)
theorem in_nest {f g : Fm} (h : g ∈ f.inner) : g.nest + 1 ≤ f.nest := by
  cases f with
  | bin o a b =>
    simp only [Fm.inner, List.mem_cons, List.not_mem_nil, or_false] at h
    simp only [Fm.nest]
    rcases h with rfl | rfl <;> omega
  | _ => simp [Fm.inner] at h
theorem in_len (f : Fm) : f.inner.length ≤ 2 := by cases f <;> simp [Fm.inner]
theorem scSize : FnScope ["_law_mine", "_law_part"] ["_law_mine"] (defScope sSize) := ⟨rfl, rfl, rfl, by decide +kernel, rfl, by decide +kernel, by decide +kernel⟩
theorem scNested : FnScope ["_law_mine", "_law_part"] ["_law_mine"] (defScope sNested) := ⟨rfl, rfl, rfl, by decide +kernel, rfl, by decide +kernel, by decide +kernel⟩
theorem ok_lsize {f : Addr} {fd : FuncData} (F : Fun K "_law_size" "_law_size" sSize f fd) (hm : mg "_law_size" = some (.ref f)) (hb : Binds K fd ["_law_mine"] []) (B : Blt mg) (IN : InnerD P w K mg base 2) : ∀ n, RecD P w K mg base "_law_size" (fun f => .int (f.sz : Nat)) n (3 + n) := by
  intro n
  induction n with
  | zero => exact dfn_of F hm scSize hb (fun i => rfl) fun cdv A outer s H0 E g M Q hp hr kq => absurd hp (by have := nest_pos g; omega)
  | succ n ih =>
    refine dfn_of F hm scSize hb (fun i => rfl) fun cdv A outer s H0 E g M Q hp hr kq => ?_
    have hr2 : Room 2 _ := hr.mono (show 2 ≤ 3 + n by omega)
    have il := in_len g
    refine at_end (e_bin e_int (e_blt (kd_sum (ns := g.inner.map fun g => (g.sz : Int))) (a_cons (EE.eq (e_lcM [("_law_part", 1)] g.inner Fm.d (fun g => D.int (g.sz : Nat)) (ei_list (EE.eq (e_call IN hr2 (a_cons (e_name 0 rfl) a_nil) g trivial rfl) rfl)) (ctg_name 1 scSize.nd (by decide) rfl) (fun _ _ => trivial) (by omega)
      (fun g' hg M' hM s2 H2 C2 cl2 fp2 => EE.eq (e_call ih hr (a_cons (e_name 1 rfl) a_nil) g' (by have := in_nest hg; omega) rfl) rfl) (blkOk_by rfl) scSize.nd) (by simp)) a_nil) B.sum) (by walk_at "bd")) ?_ (.head _) kq
    rw [sz_eq]
theorem max0 (l : List Nat) : maxI ((0 : Int) :: l.map fun (n : Nat) => (n : Int)) = maxDI 0 (l.map fun (n : Nat) => (n : Int)) := by
  cases l with
  | nil => rfl
  | cons a r =>
    have h : (a : Int) ≤ maxI ((a :: r).map fun (n : Nat) => (n : Int)) := maxI_le (by simp)
    show max 0 (maxI ((a :: r).map fun (n : Nat) => (n : Int))) = maxI ((a :: r).map fun (n : Nat) => (n : Int))
    omega
theorem ok_lnested {f : Addr} {fd : FuncData} (F : Fun K "_law_nested" "_law_nested" sNested f fd) (hm : mg "_law_nested" = some (.ref f)) (hb : Binds K fd ["_law_mine"] []) (B : Blt mg) (IN : InnerD P w K mg base 2) : ∀ n, RecD P w K mg base "_law_nested" (fun f => .int (f.nest : Nat)) n (3 + n) := by
  intro n
  induction n with
  | zero => exact dfn_of F hm scNested hb (fun i => rfl) fun cdv A outer s H0 E g M Q hp hr kq => absurd hp (by have := nest_pos g; omega)
  | succ n ih =>
    refine dfn_of F hm scNested hb (fun i => rfl) fun cdv A outer s H0 E g M Q hp hr kq => ?_
    have hr2 : Room 2 _ := hr.mono (show 2 ≤ 3 + n by omega)
    have il := in_len g
    refine at_end (e_bin e_int (e_blt (kd_max (ns := (0 : Int) :: (g.inner.map Fm.nest).map fun (n : Nat) => (n : Int)) (by simp)) (a_cons (EE.eq (e_bin (e_lst (a_cons e_int a_nil)) (e_lcM [("_law_part", 1)] g.inner Fm.d (fun g => D.int (g.nest : Nat)) (ei_list (EE.eq (e_call IN hr2 (a_cons (e_name 0 rfl) a_nil) g trivial rfl) rfl)) (ctg_name 1 scNested.nd (by decide) rfl) (fun _ _ => trivial) (by omega)
      (fun g' hg M' hM s2 H2 C2 cl2 fp2 => EE.eq (e_call ih hr (a_cons (e_name 1 rfl) a_nil) g' (by have := in_nest hg; omega) rfl) rfl) (blkOk_by rfl) scNested.nd) (bd_addL (by simp; omega))) (by simp)) a_nil) B.max) (by walk_at "bd")) ?_ (.head _) kq
    have := nest_eq g
    rw [max0, ← this]
    simp [Function.comp_def]
end
end Od

set_option Elab.async false
set_option linter.all false
set_option maxRecDepth 100000
set_option maxHeartbeats 4000000
namespace Od
open PySem L2 TL PySem.Spec
local macro_rules
  | `(tactic| walk_at "bd") => `(tactic| first | exact bd_add | exact bd_sub | exact bd_mulR (by decide) | exact bd_mulL (by decide) | exact bd_mod (by decide) | exact bd_div (by decide))
local macro_rules
  | `(tactic| walk_at "cd") => `(tactic| first | exact cd_lt | exact cd_le | exact cd_gt | exact cd_ge | exact cd_eqI | exact cd_eqS | exact cd_eqB)
local macro_rules
  | `(tactic| walk_at "le") => `(tactic| repeat (first | exact LeD.nil | apply LeD.drop | apply LeD.same))
/-- plain data, n lists deep -/
def plD : Nat → D → Prop
  | _, .non => True
  | _, .bl _ => True
  | _, .int _ => True
  | _, .str _ => True
  | n + 1, .lst ds => ds.length ≤ 1000 ∧ ∀ d ∈ ds, plD n d
  | _, _ => False
section
variable {P : Program} {w : World} {K : PySem.W.Frag} {mg : Str → Option Value} {base : Heap}
abbrev SameD (P : Program) (w : World) (K : PySem.W.Frag) (mg : Str → Option Value) (base : Heap) (n k : Nat) : Prop := Dfn P w K mg base "_law_same" k (puSp K mg (fun d : D => plD n d) (fun d => [d, d]) (fun _ => .bl true))
theorem scSame : FnScope ["_law_found", "_law_due", "_law_a", "_law_b"] ["_law_found", "_law_due"] (defScope sSame) := ⟨rfl, rfl, rfl, by decide +kernel, rfl, by decide +kernel, by decide +kernel⟩
theorem pairs_self (ds : List D) : pairs ds ds = ds.map fun d => .tup [d, d] := by
  induction ds with
  | nil => rfl
  | cons d ds ih => simp [pairs, ih]
theorem same_int {f : Addr} {cdv : Value} {A : Around} {outer : List Env} {s : Shared} {H0 : Hp} {E : XK} {M : Addr → Prop} {Q : VK} (B : Blt mg) (i : Int)
    (kq : ∀ v H', (∀ a, M a → H' a ≠ none) → Ext (dom []) H0 H' → (∀ p ∈ ([] : Cs), M p.1 ∧ Cell K mg M H' p.1 p.2) → R K mg M H' v (.bl true) → Q v H') :
    At (cxOf CX0 P w K mg base ["_law_found", "_law_due", "_law_a", "_law_b"] "_law_same" (defScope sSame) f cdv A outer s H0 E).nox M [some (.int i), some (.int i), none, none] [] [(dom [], H0)]
      (wSs (cxOf CX0 P w K mg base ["_law_found", "_law_due", "_law_a", "_law_b"] "_law_same" (defScope sSame) f cdv A outer s H0 E).nox (defBody sSame) { nx := fun _ H' => Q .non H', rt := Q }) := by
  refine at_if (t_val (e_blt (kd_isiT (t := "int") (n1 := "list") (n2 := "tuple") (b1 := false) (b2 := false) rfl (by decide +kernel) (by decide +kernel)) (a_cons (e_name 1 rfl) (a_cons (e_tup (a_cons (e_gty (t := "list") B.list) (a_cons (e_gty (t := "tuple") B.tuple) a_nil))) a_nil)) B.isinstance)) (fun h => by cases h) fun _ => at_nil ?_
  refine at_if (t_ew (t_or (t_isN (e_name 1 rfl)) fun _ => t_or1 (t_isN (e_name 0 rfl)))) (fun h => by cases h) fun _ => at_nil ?_
  refine at_if (t_ew (t_or (t_cmp (e_blt (kd_isi (t := "int") (n := "bool") (b := false) rfl (by decide +kernel)) (a_cons (e_name 1 rfl) (a_cons (e_gty (t := "bool") B.bool) a_nil)) B.isinstance) (e_blt (kd_isi (t := "int") (n := "bool") (b := false) rfl (by decide +kernel)) (a_cons (e_name 0 rfl) (a_cons (e_gty (t := "bool") B.bool) a_nil)) B.isinstance) cd_neB) fun _ => t_or1 (t_cmp (e_blt (kd_isi (t := "int") (n := "int") (b := true) rfl (by decide +kernel)) (a_cons (e_name 1 rfl) (a_cons (e_gty (t := "int") B.int) a_nil)) B.isinstance) (e_blt (kd_isi (t := "int") (n := "int") (b := true) rfl (by decide +kernel)) (a_cons (e_name 0 rfl) (a_cons (e_gty (t := "int") B.int) a_nil)) B.isinstance) cd_neB))) (fun h => by cases h) fun _ => at_nil ?_
  exact at_end (e_and (p0 := true) (q0 := true) (e_cmp (e_blt (kd_isi (t := "int") (n := "str") (b := false) rfl (by decide +kernel)) (a_cons (e_name 1 rfl) (a_cons (e_gty (t := "str") B.str) a_nil)) B.isinstance) (e_blt (kd_isi (t := "int") (n := "str") (b := false) rfl (by decide +kernel)) (a_cons (e_name 0 rfl) (a_cons (e_gty (t := "str") B.str) a_nil)) B.isinstance) cd_eqB) fun _ => e_one (EE.eq (e_cmp (e_name 0 rfl) (e_name 1 rfl) (by walk_at "cd")) (by simp))) rfl (.head _) kq
theorem same_bool {f : Addr} {cdv : Value} {A : Around} {outer : List Env} {s : Shared} {H0 : Hp} {E : XK} {M : Addr → Prop} {Q : VK} (B : Blt mg) (i : Bool)
    (kq : ∀ v H', (∀ a, M a → H' a ≠ none) → Ext (dom []) H0 H' → (∀ p ∈ ([] : Cs), M p.1 ∧ Cell K mg M H' p.1 p.2) → R K mg M H' v (.bl true) → Q v H') :
    At (cxOf CX0 P w K mg base ["_law_found", "_law_due", "_law_a", "_law_b"] "_law_same" (defScope sSame) f cdv A outer s H0 E).nox M [some (.bl i), some (.bl i), none, none] [] [(dom [], H0)]
      (wSs (cxOf CX0 P w K mg base ["_law_found", "_law_due", "_law_a", "_law_b"] "_law_same" (defScope sSame) f cdv A outer s H0 E).nox (defBody sSame) { nx := fun _ H' => Q .non H', rt := Q }) := by
  refine at_if (t_val (e_blt (kd_isiT (t := "bool") (n1 := "list") (n2 := "tuple") (b1 := false) (b2 := false) rfl (by decide +kernel) (by decide +kernel)) (a_cons (e_name 1 rfl) (a_cons (e_tup (a_cons (e_gty (t := "list") B.list) (a_cons (e_gty (t := "tuple") B.tuple) a_nil))) a_nil)) B.isinstance)) (fun h => by cases h) fun _ => at_nil ?_
  refine at_if (t_ew (t_or (t_isN (e_name 1 rfl)) fun _ => t_or1 (t_isN (e_name 0 rfl)))) (fun h => by cases h) fun _ => at_nil ?_
  refine at_if (t_ew (t_or (t_cmp (e_blt (kd_isi (t := "bool") (n := "bool") (b := true) rfl (by decide +kernel)) (a_cons (e_name 1 rfl) (a_cons (e_gty (t := "bool") B.bool) a_nil)) B.isinstance) (e_blt (kd_isi (t := "bool") (n := "bool") (b := true) rfl (by decide +kernel)) (a_cons (e_name 0 rfl) (a_cons (e_gty (t := "bool") B.bool) a_nil)) B.isinstance) cd_neB) fun _ => t_or1 (t_cmp (e_blt (kd_isi (t := "bool") (n := "int") (b := true) rfl (by decide +kernel)) (a_cons (e_name 1 rfl) (a_cons (e_gty (t := "int") B.int) a_nil)) B.isinstance) (e_blt (kd_isi (t := "bool") (n := "int") (b := true) rfl (by decide +kernel)) (a_cons (e_name 0 rfl) (a_cons (e_gty (t := "int") B.int) a_nil)) B.isinstance) cd_neB))) (fun h => by cases h) fun _ => at_nil ?_
  exact at_end (e_and (p0 := true) (q0 := true) (e_cmp (e_blt (kd_isi (t := "bool") (n := "str") (b := false) rfl (by decide +kernel)) (a_cons (e_name 1 rfl) (a_cons (e_gty (t := "str") B.str) a_nil)) B.isinstance) (e_blt (kd_isi (t := "bool") (n := "str") (b := false) rfl (by decide +kernel)) (a_cons (e_name 0 rfl) (a_cons (e_gty (t := "str") B.str) a_nil)) B.isinstance) cd_eqB) fun _ => e_one (EE.eq (e_cmp (e_name 0 rfl) (e_name 1 rfl) (by walk_at "cd")) (by simp))) rfl (.head _) kq
theorem same_str {f : Addr} {cdv : Value} {A : Around} {outer : List Env} {s : Shared} {H0 : Hp} {E : XK} {M : Addr → Prop} {Q : VK} (B : Blt mg) (i : Str)
    (kq : ∀ v H', (∀ a, M a → H' a ≠ none) → Ext (dom []) H0 H' → (∀ p ∈ ([] : Cs), M p.1 ∧ Cell K mg M H' p.1 p.2) → R K mg M H' v (.bl true) → Q v H') :
    At (cxOf CX0 P w K mg base ["_law_found", "_law_due", "_law_a", "_law_b"] "_law_same" (defScope sSame) f cdv A outer s H0 E).nox M [some (.str i), some (.str i), none, none] [] [(dom [], H0)]
      (wSs (cxOf CX0 P w K mg base ["_law_found", "_law_due", "_law_a", "_law_b"] "_law_same" (defScope sSame) f cdv A outer s H0 E).nox (defBody sSame) { nx := fun _ H' => Q .non H', rt := Q }) := by
  refine at_if (t_val (e_blt (kd_isiT (t := "str") (n1 := "list") (n2 := "tuple") (b1 := false) (b2 := false) rfl (by decide +kernel) (by decide +kernel)) (a_cons (e_name 1 rfl) (a_cons (e_tup (a_cons (e_gty (t := "list") B.list) (a_cons (e_gty (t := "tuple") B.tuple) a_nil))) a_nil)) B.isinstance)) (fun h => by cases h) fun _ => at_nil ?_
  refine at_if (t_ew (t_or (t_isN (e_name 1 rfl)) fun _ => t_or1 (t_isN (e_name 0 rfl)))) (fun h => by cases h) fun _ => at_nil ?_
  refine at_if (t_ew (t_or (t_cmp (e_blt (kd_isi (t := "str") (n := "bool") (b := false) rfl (by decide +kernel)) (a_cons (e_name 1 rfl) (a_cons (e_gty (t := "bool") B.bool) a_nil)) B.isinstance) (e_blt (kd_isi (t := "str") (n := "bool") (b := false) rfl (by decide +kernel)) (a_cons (e_name 0 rfl) (a_cons (e_gty (t := "bool") B.bool) a_nil)) B.isinstance) cd_neB) fun _ => t_or1 (t_cmp (e_blt (kd_isi (t := "str") (n := "int") (b := false) rfl (by decide +kernel)) (a_cons (e_name 1 rfl) (a_cons (e_gty (t := "int") B.int) a_nil)) B.isinstance) (e_blt (kd_isi (t := "str") (n := "int") (b := false) rfl (by decide +kernel)) (a_cons (e_name 0 rfl) (a_cons (e_gty (t := "int") B.int) a_nil)) B.isinstance) cd_neB))) (fun h => by cases h) fun _ => at_nil ?_
  exact at_end (e_and (p0 := true) (q0 := true) (e_cmp (e_blt (kd_isi (t := "str") (n := "str") (b := true) rfl (by decide +kernel)) (a_cons (e_name 1 rfl) (a_cons (e_gty (t := "str") B.str) a_nil)) B.isinstance) (e_blt (kd_isi (t := "str") (n := "str") (b := true) rfl (by decide +kernel)) (a_cons (e_name 0 rfl) (a_cons (e_gty (t := "str") B.str) a_nil)) B.isinstance) cd_eqB) fun _ => e_one (EE.eq (e_cmp (e_name 0 rfl) (e_name 1 rfl) (by walk_at "cd")) (by simp))) rfl (.head _) kq
theorem same_non {f : Addr} {cdv : Value} {A : Around} {outer : List Env} {s : Shared} {H0 : Hp} {E : XK} {M : Addr → Prop} {Q : VK} (B : Blt mg)
    (kq : ∀ v H', (∀ a, M a → H' a ≠ none) → Ext (dom []) H0 H' → (∀ p ∈ ([] : Cs), M p.1 ∧ Cell K mg M H' p.1 p.2) → R K mg M H' v (.bl true) → Q v H') :
    At (cxOf CX0 P w K mg base ["_law_found", "_law_due", "_law_a", "_law_b"] "_law_same" (defScope sSame) f cdv A outer s H0 E).nox M [some .non, some .non, none, none] [] [(dom [], H0)]
      (wSs (cxOf CX0 P w K mg base ["_law_found", "_law_due", "_law_a", "_law_b"] "_law_same" (defScope sSame) f cdv A outer s H0 E).nox (defBody sSame) { nx := fun _ H' => Q .non H', rt := Q }) := by
  refine at_if (t_val (e_blt (kd_isiT (t := "NoneType") (n1 := "list") (n2 := "tuple") (b1 := false) (b2 := false) rfl (by decide +kernel) (by decide +kernel)) (a_cons (e_name 1 rfl) (a_cons (e_tup (a_cons (e_gty (t := "list") B.list) (a_cons (e_gty (t := "tuple") B.tuple) a_nil))) a_nil)) B.isinstance)) (fun h => by cases h) fun _ => at_nil ?_
  refine at_if (t_ew (t_or (t_isN (e_name 1 rfl)) fun _ => t_or1 (t_isN (e_name 0 rfl)))) (fun _ => ?_) (fun h => by cases h)
  exact at_end (e_and (p0 := true) (q0 := true) (EE.eq (x := .bl (isNonD .non)) (e_isN (e_name 1 rfl)) rfl) fun _ => e_one (EE.eq (x := .bl (isNonD .non)) (e_isN (e_name 0 rfl)) rfl)) rfl (.head _) kq
theorem ok_same {f : Addr} {fd : FuncData} (F : Fun K "_law_same" "_law_same" sSame f fd) (hm : mg "_law_same" = some (.ref f)) (hb : Binds K fd ["_law_found", "_law_due"] []) (B : Blt mg) : ∀ n, SameD P w K mg base n (3 + n) := by
  intro n
  induction n with
  | zero =>
    refine dfn_of F hm scSame hb (fun i => rfl) fun cdv A outer s H0 E d M Q hp hr kq => ?_
    cases d with
    | non => exact same_non B kq
    | bl i => exact same_bool B i kq
    | int i => exact same_int B i kq
    | str i => exact same_str B i kq
    | _ => exact hp.elim
  | succ n ih =>
    refine dfn_of F hm scSame hb (fun i => rfl) fun cdv A outer s H0 E d M Q hp hr kq => ?_
    cases d with
    | non => exact same_non B kq
    | bl i => exact same_bool B i kq
    | int i => exact same_int B i kq
    | str i => exact same_str B i kq
    | lst ds =>
      obtain ⟨hl, ha⟩ := hp
      refine at_if (t_val (e_blt (kd_isiT (t := "list") (n1 := "list") (n2 := "tuple") (b1 := true) (b2 := false) rfl (by decide +kernel) (by decide +kernel)) (a_cons (e_name 1 rfl) (a_cons (e_tup (a_cons (e_gty (t := "list") B.list) (a_cons (e_gty (t := "tuple") B.tuple) a_nil))) a_nil)) B.isinstance)) (fun _ => ?_) (fun h => by cases h)
      refine at_if (t_ew (t_or (t_cmp (e_blt (kd_isi (t := "list") (n := "list") (b := true) rfl (by decide +kernel)) (a_cons (e_name 0 rfl) (a_cons (e_gty (t := "list") B.list) a_nil)) B.isinstance) (e_blt (kd_isi (t := "list") (n := "list") (b := true) rfl (by decide +kernel)) (a_cons (e_name 1 rfl) (a_cons (e_gty (t := "list") B.list) a_nil)) B.isinstance) cd_neB) fun _ => t_or1 (t_cmp (e_blt (kd_isi (t := "list") (n := "tuple") (b := false) rfl (by decide +kernel)) (a_cons (e_name 0 rfl) (a_cons (e_gty (t := "tuple") B.tuple) a_nil)) B.isinstance) (e_blt (kd_isi (t := "list") (n := "tuple") (b := false) rfl (by decide +kernel)) (a_cons (e_name 1 rfl) (a_cons (e_gty (t := "tuple") B.tuple) a_nil)) B.isinstance) cd_neB))) (fun h => by cases h) fun _ => at_nil ?_
      refine at_end (e_and (p0 := true) (q0 := true) (EE.eq (e_cmp (e_blt kd_lenL (a_cons (e_name 0 rfl) a_nil) B.len) (e_blt kd_lenL (a_cons (e_name 1 rfl) a_nil) B.len) cd_eqI) (by simp)) fun _ => e_one (EE.eq (e_blt (kd_all (bs := ds.map fun _ => true)) (a_cons (EE.eq (e_lcM [("_law_a", 2), ("_law_b", 3)] ds (fun d => .tup [d, d]) (fun _ => D.bl true) (EI.eq (ei_zip (e_name 0 rfl) (e_name 1 rfl) B.zip) (pairs_self ds))
        (ctg_pair 2 3 scSame.nd (by decide) (by decide) rfl rfl) (fun d _ => ⟨d, d, rfl⟩) (Nat.le_trans hl (by decide))
        (fun d hd M' hM s2 H2 C2 cl2 fp2 => EE.eq (e_call ih hr (a_cons (e_name 2 rfl) (a_cons (e_name 3 rfl) a_nil)) d (ha d hd) rfl) rfl) (blkOk_by rfl) scSame.nd) (by simp)) a_nil) B.all) (by simp))) rfl (.head _) kq
    | _ => exact hp.elim
end
end Od

set_option Elab.async false
set_option linter.all false
set_option maxRecDepth 100000
set_option maxHeartbeats 4000000
/-! K6a: operators of formulas, str, repr; the reader's small methods -/
namespace Od
open PySem L2 TL PySem.Spec
abbrev sNeed : Stmt := top 14
abbrev sAnd : Stmt := inClass sCls 16
abbrev sOr : Stmt := inClass sCls 17
abbrev sShr : Stmt := inClass sCls 18
abbrev sRepr : Stmt := inClass sCls 21
abbrev sStr : Stmt := inClass sCls 22
abbrev sReader : Stmt := top 16
abbrev sRInit : Stmt := inClass sReader 0
abbrev sSkip : Stmt := inClass sReader 1
abbrev sSign : Stmt := inClass sReader 2
local macro_rules
  | `(tactic| walk_at "bd") => `(tactic| first | exact bd_add | exact bd_sub | exact bd_mulR (by decide) | exact bd_mulL (by decide) | exact bd_mod (by decide) | exact bd_div (by decide))
local macro_rules
  | `(tactic| walk_at "cd") => `(tactic| first | exact cd_lt | exact cd_le | exact cd_gt | exact cd_ge | exact cd_eqI | exact cd_eqS | exact cd_eqB)
section
variable {P : Program} {w : World} {K : PySem.W.Frag} {mg : Str → Option Value} {base : Heap}
abbrev NeedD (P : Program) (w : World) (K : PySem.W.Frag) (mg : Str → Option Value) (base : Heap) (k : Nat) : Prop := Dfn P w K mg base "need_formula" k (puSp K mg (fun _ : Fm => True) (fun f => [f.o]) (fun f => f.o))
abbrev BinD' (P : Program) (w : World) (K : PySem.W.Frag) (mg : Str → Option Value) (base : Heap) (n : Str) (o : Op) (k : Nat) : Prop := Dun P w K mg base "Formula" n k (puSp K mg (fun p : Fm × Fm => p.1.ok ∧ p.2.ok ∧ p.1.sz + p.2.sz < 10000) (fun p => [p.1.o, p.2.o]) (fun p => (Fm.bin o p.1 p.2).o))
abbrev StrFD (P : Program) (w : World) (K : PySem.W.Frag) (mg : Str → Option Value) (base : Heap) (n : Str) (res : Fm → Str) (k : Nat) : Prop := Dun P w K mg base "Formula" n k (puSp K mg (fun f : Fm => f.sz ≤ 10000) (fun f => [f.o]) (fun f => .str (res f)))
theorem scNeed : FnScope ["value"] ["value"] (defScope sNeed) := ⟨rfl, rfl, rfl, by decide +kernel, rfl, by decide +kernel, by decide +kernel⟩
theorem ok_need {f C : Addr} {fd : FuncData} (F : Fun K "need_formula" "need_formula" sNeed f fd) (hm : mg "need_formula" = some (.ref f)) (hb : Binds K fd ["value"] []) (B : Blt mg) (T : FmT w K mg C) : NeedD P w K mg base 1 := by
  refine dfn_of F hm scNeed hb (fun i => rfl) fun cdv A outer s H0 E g M Q hp hr kq => ?_
  refine at_if (b0 := false) (cs1 := []) ?_ (fun h => by cases h) (fun _ => at_nil ?_)
  · exact t_not (k0 := true) (t_val (e_blt (kd_isiOC T.hm T.ci T.kit) (a_cons ((e_name 0 rfl).eq g.o_eq) (a_cons (e_gref T.hm) a_nil)) B.isinstance))
  · exact at_end (e_name 0 rfl) rfl (.head _) kq
theorem scAnd : FnScope ["self", "other"] ["self", "other"] (defScope sAnd) := ⟨rfl, rfl, rfl, by decide +kernel, rfl, by decide +kernel, by decide +kernel⟩
theorem scOr : FnScope ["self", "other"] ["self", "other"] (defScope sOr) := ⟨rfl, rfl, rfl, by decide +kernel, rfl, by decide +kernel, by decide +kernel⟩
theorem scShr : FnScope ["self", "other"] ["self", "other"] (defScope sShr) := ⟨rfl, rfl, rfl, by decide +kernel, rfl, by decide +kernel, by decide +kernel⟩
theorem ok_and {f : Addr} {fd : FuncData} (F : Fun K "__and__" "Formula.__and__" sAnd f fd) (hC : ∃ C, mg "Formula" = some (.ref C) ∧ PySem.W.findIn K (.ref C) "__and__" = some (some (.ref f)) ∧ PySem.W.isFn K (.ref f) = true) (hb : Binds K fd ["self", "other"] []) (MK : MkF P w K mg base 5) (N : NeedD P w K mg base 1) : BinD' P w K mg base "__and__" .an 7 := by
  refine dun_of hC F scAnd hb (fun i => rfl) fun cdv A outer s H0 E g M Q hp hr kq => ?_
  obtain ⟨g1, g2⟩ := g
  obtain ⟨h1, h2, h3⟩ := hp
  exact at_end (e_mk MK hr (a_cons e_str (a_cons (e_name 0 rfl) (a_cons (e_call N (hr.mono (by decide)) (a_cons (e_name 1 rfl) a_nil) g2 trivial rfl) a_nil))) (.bin .an g1 g2) ⟨⟨h1, h2⟩, by simp only [Fm.sz]; simp only at h3; omega⟩ rfl) rfl (.head _) kq
theorem ok_or {f : Addr} {fd : FuncData} (F : Fun K "__or__" "Formula.__or__" sOr f fd) (hC : ∃ C, mg "Formula" = some (.ref C) ∧ PySem.W.findIn K (.ref C) "__or__" = some (some (.ref f)) ∧ PySem.W.isFn K (.ref f) = true) (hb : Binds K fd ["self", "other"] []) (MK : MkF P w K mg base 5) (N : NeedD P w K mg base 1) : BinD' P w K mg base "__or__" .orr 7 := by
  refine dun_of hC F scOr hb (fun i => rfl) fun cdv A outer s H0 E g M Q hp hr kq => ?_
  obtain ⟨g1, g2⟩ := g
  obtain ⟨h1, h2, h3⟩ := hp
  exact at_end (e_mk MK hr (a_cons e_str (a_cons (e_name 0 rfl) (a_cons (e_call N (hr.mono (by decide)) (a_cons (e_name 1 rfl) a_nil) g2 trivial rfl) a_nil))) (.bin .orr g1 g2) ⟨⟨h1, h2⟩, by simp only [Fm.sz]; simp only at h3; omega⟩ rfl) rfl (.head _) kq
theorem ok_shr {f : Addr} {fd : FuncData} (F : Fun K "__rshift__" "Formula.__rshift__" sShr f fd) (hC : ∃ C, mg "Formula" = some (.ref C) ∧ PySem.W.findIn K (.ref C) "__rshift__" = some (some (.ref f)) ∧ PySem.W.isFn K (.ref f) = true) (hb : Binds K fd ["self", "other"] []) (MK : MkF P w K mg base 5) (N : NeedD P w K mg base 1) : BinD' P w K mg base "__rshift__" .im 7 := by
  refine dun_of hC F scShr hb (fun i => rfl) fun cdv A outer s H0 E g M Q hp hr kq => ?_
  obtain ⟨g1, g2⟩ := g
  obtain ⟨h1, h2, h3⟩ := hp
  exact at_end (e_mk MK hr (a_cons e_str (a_cons (e_name 0 rfl) (a_cons (e_call N (hr.mono (by decide)) (a_cons (e_name 1 rfl) a_nil) g2 trivial rfl) a_nil))) (.bin .im g1 g2) ⟨⟨h1, h2⟩, by simp only [Fm.sz]; simp only at h3; omega⟩ rfl) rfl (.head _) kq
theorem scStrF : FnScope ["self"] ["self"] (defScope sStr) := ⟨rfl, rfl, rfl, by decide +kernel, rfl, by decide +kernel, by decide +kernel⟩
theorem scReprF : FnScope ["self"] ["self"] (defScope sRepr) := ⟨rfl, rfl, rfl, by decide +kernel, rfl, by decide +kernel, by decide +kernel⟩
def reprF (f : Fm) : Str := ("Formula(" : Str) ++ f.t ++ (")" : Str)
theorem ok_repr {f C : Addr} {fd : FuncData} (F : Fun K "__repr__" "Formula.__repr__" sRepr f fd) (hC : ∃ C, mg "Formula" = some (.ref C) ∧ PySem.W.findIn K (.ref C) "__repr__" = some (some (.ref f)) ∧ PySem.W.isFn K (.ref f) = true) (hb : Binds K fd ["self"] []) (T : FmT w K mg C) : StrFD P w K mg base "__repr__" reprF 2 := by
  refine dun_of hC F scReprF hb (fun i => rfl) fun cdv A outer s H0 E g M Q hp hr kq => ?_
  have hl := g.t_len
  have l1 : (("Formula(" : Str)).length = 8 := by decide +kernel
  have l2 : ((")" : Str)).length = 1 := by decide +kernel
  exact at_end (e_fstr3 (e_f T 2 (e_name 0 rfl) rfl) (by omega)) rfl (.head _) kq
/-! ### the reader -/
def rn : List Str := ["source", "at"]
def rd (src : Str) (i : Nat) : MC := .obj "Reader" rn [.str src, .int (i : Nat)]
structure RdT (w : World) (K : PySem.W.Frag) (mg : Str → Option Value) (C : Addr) : Prop where
  hm : mg "Reader" = some (.ref C)
  cl : Cls K C
  no : ∀ n ∈ rn, NoAttr K C n
/-- t stands in s from i on -/
def Std (s : List Nat) (i : Nat) (t : List Nat) : Prop := ∃ post, s.drop i = t ++ post
theorem Std.left {s : List Nat} {i : Nat} {t u : List Nat} (h : Std s i (t ++ u)) : Std s i t := by
  obtain ⟨p, h⟩ := h
  exact ⟨u ++ p, by rw [h, List.append_assoc]⟩
theorem Std.right {s : List Nat} {i : Nat} {t u : List Nat} (h : Std s i (t ++ u)) : Std s (i + t.length) u := by
  obtain ⟨p, h⟩ := h
  refine ⟨p, ?_⟩
  rw [← List.drop_drop, h, List.append_assoc, List.drop_left]
theorem Std.le {s : List Nat} {i : Nat} {t : List Nat} (h : Std s i t) (ht : t ≠ []) : i + t.length ≤ s.length := by
  obtain ⟨p, h⟩ := h
  have := congrArg List.length h
  simp at this
  have : 0 < t.length := List.length_pos_iff.mpr ht
  omega
theorem Std.sign {s : Str} {i c : Nat} {r : List Nat} (h : Std (tl s) i (c :: r)) : cutS s (some (i : Int)) (some ((i : Int) + 1)) = sg c := by
  have hl := h.le (by simp)
  obtain ⟨p, h⟩ := h
  apply ext_tl
  unfold cutS
  have hs : s.length = (tl s).length := len_tl s
  simp at hl
  have e1 : HT.sIx s.length 0 (some (i : Int)) = i := by rw [HT.sIx_nat]; rw [hs]; simp; omega
  have e2 : HT.sIx s.length s.length (some ((i : Int) + 1)) = i + 1 := by
    rw [show ((i : Int) + 1) = ((i + 1 : Nat) : Int) by omega, HT.sIx_nat]; rw [hs]; simp; omega
  rw [e1, e2]
  show ((tl s).drop i).take (i + 1 - i) = [c]
  rw [h]
  have : i + 1 - i = 1 := by omega
  rw [this]; rfl
theorem Std.starts {s t : Str} {i : Nat} (h : Std (tl s) i (tl t)) (ht : tl t ≠ []) : Txt.startswith3 s t (i : Int) = true := by
  have hl := h.le ht
  obtain ⟨p, h⟩ := h
  have hs : s.length = (tl s).length := len_tl s
  have ht2 : t.length = (tl t).length := len_tl t
  have e1 : PySem.fromIndex s.length (i : Int) = i := by
    unfold PySem.fromIndex
    rw [if_neg (by omega)]
    omega
  unfold Txt.startswith3
  rw [e1]
  rw [Bool.and_eq_true]
  refine ⟨by rw [decide_eq_true_eq, hs, ht2]; exact hl, ?_⟩
  unfold PySem.Builtin.Str.subAt
  rw [beq_iff_eq]
  apply Array.toList_inj.mp
  rw [Array.toList_extract, ht2]
  show ((tl s).drop i).take (i + (tl t).length - i) = tl t
  rw [h]
  have : i + (tl t).length - i = (tl t).length := by omega
  rw [this, List.take_left]
theorem scRInit : FnScope ["self", "text"] ["self", "text"] (defScope sRInit) := ⟨rfl, rfl, rfl, by decide +kernel, rfl, by decide +kernel, by decide +kernel⟩
theorem scSkip : FnScope ["self", "sign"] ["self", "sign"] (defScope sSkip) := ⟨rfl, rfl, rfl, by decide +kernel, rfl, by decide +kernel, by decide +kernel⟩
theorem scSign : FnScope ["self"] ["self"] (defScope sSign) := ⟨rfl, rfl, rfl, by decide +kernel, rfl, by decide +kernel, by decide +kernel⟩
abbrev MkR (P : Program) (w : World) (K : PySem.W.Frag) (mg : Str → Option Value) (base : Heap) (k : Nat) : Prop := Mkr P w K mg base "Reader" k (mkSp K mg "Reader" (fun _ : Str => True) (fun s => [.str s]) rn (fun s => [.str s, .int ((0 : Nat) : Int)]))
theorem ok_rinit {f C : Addr} {fd : FuncData} (F : Fun K "__init__" "Reader.__init__" sRInit f fd) (hC : ∃ C, mg "Reader" = some (.ref C) ∧ Mk K C f) (hb : Binds K fd ["self", "text"] []) (T : RdT w K mg C) : MkR P w K mg base 1 := by
  refine mkr_of hC F scRInit hb (fun i => rfl) fun cdv A outer s H0 E g M ad Q hp hr kq nm => ?_
  refine at_fldN (e_name 1 rfl) (e_name 0 rfl) T.hm T.cl (T.no _ (by decide +kernel)) (by decide) (by decide +kernel) .here ?_
  refine at_fldN e_int (e_name 0 rfl) T.hm T.cl (T.no _ (by decide +kernel)) (by decide) (by decide +kernel) .here ?_
  exact at_endI (.head _) rfl nm kq fun _ _ h => h
theorem at_endNon {X : Cx} {M : Addr → Prop} {e : DE} {c0 : Cs} {H0 : Hp} {D0 : Ends} {fr : Frs} {A0 : List Addr} (hfr : (A0, H0) ∈ fr)
    (kq : ∀ v H', (∀ a, M a → H' a ≠ none) → Ext A0 H0 H' → (∀ p ∈ c0, M p.1 ∧ Cell X.K X.mg M H' p.1 p.2) → R X.K X.mg M H' v .non → D0.rt v H') (hq : ∀ σ H, D0.rt .non H → D0.nx σ H) : At X M e c0 fr (wSs X [] D0) := at_nil fun σ H S x l =>
  hq σ H (kq .non H S.mt (x _ hfr) S.cel (by simp [R]))
structure SkI where
  ad : Addr
  src : Str
  i : Nat
  t : Str
structure SkI.Pre (j : SkI) : Prop where
  st : Std (tl j.src) j.i (tl j.t)
  ne : tl j.t ≠ []
  le : j.src.length ≤ 100000
abbrev SkipD (P : Program) (w : World) (K : PySem.W.Frag) (mg : Str → Option Value) (base : Heap) (k : Nat) : Prop := Mth P w K mg base "Reader" "skip" k (fnSp K mg SkI.Pre (fun j => [.ref j.ad, .str j.t]) (fun j => [(j.ad, rd j.src j.i)]) (fun _ => .non) (fun j => [(j.ad, rd j.src (j.i + (tl j.t).length))]))
theorem ok_skip {f C : Addr} {fd : FuncData} (F : Fun K "skip" "Reader.skip" sSkip f fd) (hC : ∃ C, mg "Reader" = some (.ref C) ∧ Cls K C ∧ Meth K C "skip" f) (hb : Binds K fd ["self", "sign"] []) (B : Blt mg) (T : RdT w K mg C) : SkipD P w K mg base 2 := by
  refine mth_of hC F scSkip hb (fun i => rfl) fun cdv A outer s H0 E j M Q hp hr kq => ?_
  obtain ⟨ad, src, i, t⟩ := j
  obtain ⟨st, ne, le⟩ := hp
  dsimp only at st ne le kq
  have hl := st.le ne
  have hsw := st.starts ne
  have ht2 : t.length = (tl t).length := len_tl t
  have hs2 : src.length = (tl src).length := len_tl src
  refine at_if (b0 := false) (cs1 := [(ad, rd src i)]) ?_ (fun h => by cases h) (fun _ => at_nil ?_)
  · exact t_not (k0 := true) (t_val (EE.eq (e_sw (e_fldc (e_name 0 rfl) (.head _) T.hm T.cl (T.no _ (by decide +kernel)) 0 (by decide +kernel) rfl) (e_name 1 rfl) (e_fldc (e_name 0 rfl) (.head _) T.hm T.cl (T.no _ (by decide +kernel)) 1 (by decide +kernel) rfl)) (by rw [hsw])))
  · refine at_fldaug (cn := "Reader") (ns := rn) (ds := [.str src, .int (i : Nat)]) (i := (i : Int)) (j := (t.length : Nat)) 1 (e_name 0 rfl) (e_blt (kd_lenS (Nat.le_trans (by omega : t.length ≤ 100000) (by decide))) (a_cons (e_name 1 rfl) a_nil) B.len) T.hm T.cl (T.no _ (by decide +kernel)) (by decide) (by decide +kernel) rfl .here ?_
    refine at_eqC (cs2 := [(ad, rd src (i + (tl t).length))]) ?_ (by
      rw [ht2]; show [(ad, MC.obj "Reader" rn [.str src, .int ((i : Int) + ((tl t).length : Nat))])] = _
      rfl)
    exact at_endNon (.head _) kq fun _ _ h => h
structure SiI where
  ad : Addr
  src : Str
  i : Nat
abbrev SignD (P : Program) (w : World) (K : PySem.W.Frag) (mg : Str → Option Value) (base : Heap) (k : Nat) : Prop := Mth P w K mg base "Reader" "sign" k (fnSp K mg (fun j : SiI => j.src.length ≤ 100000) (fun j => [.ref j.ad]) (fun j => [(j.ad, rd j.src j.i)]) (fun j => .str (cutS j.src (some (j.i : Int)) (some ((j.i : Int) + 1)))) (fun j => [(j.ad, rd j.src j.i)]))
theorem ok_sign {f C : Addr} {fd : FuncData} (F : Fun K "sign" "Reader.sign" sSign f fd) (hC : ∃ C, mg "Reader" = some (.ref C) ∧ Cls K C ∧ Meth K C "sign" f) (hb : Binds K fd ["self"] []) (B : Blt mg) (T : RdT w K mg C) : SignD P w K mg base 1 := by
  refine mth_of hC F scSign hb (fun i => rfl) fun cdv A outer s H0 E j M Q hp hr kq => ?_
  obtain ⟨ad, src, i⟩ := j
  dsimp only at hp kq
  exact at_end (e_slice (e_fldc (e_name 0 rfl) (.head _) T.hm T.cl (T.no _ (by decide +kernel)) 0 (by decide +kernel) rfl) (o_some (e_fldc (e_name 0 rfl) (.head _) T.hm T.cl (T.no _ (by decide +kernel)) 1 (by decide +kernel) rfl)) (o_some (e_bin (e_fldc (e_name 0 rfl) (.head _) T.hm T.cl (T.no _ (by decide +kernel)) 1 (by decide +kernel) rfl) e_int (by walk_at "bd"))) (sd_str (Nat.le_trans hp (by decide)))) rfl (.head _) kq
end
end Od

set_option Elab.async false
set_option linter.all false
set_option maxRecDepth 100000
set_option maxHeartbeats 4000000
/-! K6b: the reader reads a formula's text -/
namespace Od
open PySem L2 TL PySem.Spec
abbrev sRForm : Stmt := inClass sReader 3
abbrev sPair : Stmt := inClass sReader 4
abbrev sReadF : Stmt := top 17
local macro_rules
  | `(tactic| walk_at "bd") => `(tactic| first | exact bd_add | exact bd_sub | exact bd_mulR (by decide) | exact bd_mulL (by decide) | exact bd_mod (by decide) | exact bd_div (by decide))
local macro_rules
  | `(tactic| walk_at "cd") => `(tactic| first | exact cd_lt | exact cd_le | exact cd_gt | exact cd_ge | exact cd_eqI | exact cd_eqS | exact cd_eqB)
section
variable {X : Cx} {M : Addr → Prop} {e : DE} {cs cs1 cs2 cs3 : Cs} {pos p pos' apos : Pos} {a c ex o x : Expr}
theorem e_statE {ι : Type} {pre : ι → Prop} {args : ι → List D} {res : ι → D} {k : Nat} {ds : List D} {d : D} {m cn : Str} {es : List Expr} {pl : Sem Bool} (F : Stc X.prog X.w X.K X.mg X.base cn m k (puSp X.K X.mg pre args res)) (hr : Room k X.A) (ha : EA X M e cs (a :: es) ds cs1) (i : ι) (hp : pre i) (hds : ds = args i) (hd : res i = d := by rfl) (hg : Gl X cn := by rfl) (hdb : (cn == ("__debug__" : Str)) = false := by decide)
    (hst : starEach (a :: es) X.env = (false, eval a X.env) :: starEach es X.env := by rfl) (hpl : (backTo pos (starEach es X.env)).any (·.1) = false := by rfl)
    (ht : eval (.Call (.Attribute (.Name cn p) m apos) (a :: es) [] pos) X.env = (do
      let ov ← eval (.Name cn p) X.env
      standAt apos.atName
      let (f, first) ← holding [ov] (getMethod ov m pl)
      callWith pos f first (backTo pos (starEach (a :: es) X.env)) (backToKw pos (keywordEach [] X.env))) := by rfl) : EE X M e cs (.Call (.Attribute (.Name cn p) m apos) (a :: es) [] pos) d cs1 :=
  (e_stat F hr ha i hp hds hg hdb hst hpl ht).eq hd
theorem e_neg' {f : Fm} {k : Nat} {d : D} (F : NegD X.prog X.w X.K X.mg X.base k) (hr : Room k X.A) (hp : f.ok ∧ f.sz ≤ 9998) (ha : EE X M e cs a f.o cs1) (hd : (Fm.bin .im f (.cst false)).o = d := by rfl) : EE X M e cs (.UnaryOp .USub a pos) d cs1 :=
  (e_un (ha.eq f.o_eq) (ud_own (cn := "Formula") (ns := fnames) (ds := f.fs) F hr f hp (by rw [f.o_eq]))).eq hd
theorem e_opF {op : Operator} {nm : Str} {q : Op} {f g : Fm} {k : Nat} {d : D} (F : BinD' X.prog X.w X.K X.mg X.base nm q k) (hsf : ∀ C, X.mg "Formula" = some (.ref C) → PySem.W.selfFirst X.K C = true) (hr : Room k X.A) (hp : f.ok ∧ g.ok ∧ f.sz + g.sz < 10000) (ha : EE X M e cs a f.o cs1) (hb : EE X M e cs1 x g.o cs2) (hd : (Fm.bin q f g).o = d := by rfl) (hi : PySem.dunder op.info.2 = nm := by rfl) : EE X M e cs (.BinOp a op x pos) d cs2 :=
  (e_bin (ha.eq f.o_eq) (hb.eq g.o_eq) (bd_own (cn := "Formula") (ns := fnames) (ds := f.fs) (es' := g.fs) F hsf hr (f, g) hp (by rw [f.o_eq, g.o_eq]) hi)).eq hd
end
section
variable {P : Program} {w : World} {K : PySem.W.Frag} {mg : Str → Option Value} {base : Heap}
theorem Mth.up {c m : Str} {k k' : Nat} {sp : Sp} (h : k ≤ k') (F : Mth P w K mg base c m k sp) : Mth P w K mg base c m k' sp := by
  obtain ⟨C, g, h1, h2, h3, F⟩ := F.ex
  exact ⟨C, g, h1, h2, h3, fun A outer s H us vs Q E hr => F A outer s H us vs Q E (hr.mono h)⟩
structure FoI where
  ad : Addr
  src : Str
  i : Nat
  f : Fm
structure FoI.Pre (n : Nat) (j : FoI) : Prop where
  ok : j.f.ok
  sz : j.f.sz ≤ 9000
  ne : j.f.nest ≤ n
  st : Std (tl j.src) j.i (tl j.f.t)
  le : j.src.length ≤ 100000
abbrev RFormD (P : Program) (w : World) (K : PySem.W.Frag) (mg : Str → Option Value) (base : Heap) (n k : Nat) : Prop := Mth P w K mg base "Reader" "formula" k (fnSp K mg (FoI.Pre n) (fun j => [.ref j.ad, .int (n : Int)]) (fun j => [(j.ad, rd j.src j.i)]) (fun j => j.f.o) (fun j => [(j.ad, rd j.src (j.i + (tl j.f.t).length))]))
/-- what stands behind the bracket -/
def inText (o : Op) (a b : Fm) : List Nat := tl a.t ++ tl o.s ++ tl b.t ++ [41]
structure PaI where
  ad : Addr
  src : Str
  i : Nat
  o : Op
  a : Fm
  b : Fm
structure PaI.Pre (n : Nat) (j : PaI) : Prop where
  oka : j.a.ok
  okb : j.b.ok
  sz : j.a.sz + j.b.sz ≤ 8999
  na : j.a.nest ≤ n
  nb : j.b.nest ≤ n
  st : Std (tl j.src) j.i (inText j.o j.a j.b)
  le : j.src.length ≤ 100000
abbrev RPairD (P : Program) (w : World) (K : PySem.W.Frag) (mg : Str → Option Value) (base : Heap) (n k : Nat) : Prop := Mth P w K mg base "Reader" "pair" k (fnSp K mg (PaI.Pre n) (fun j => [.ref j.ad, .int (n : Int)]) (fun j => [(j.ad, rd j.src j.i)]) (fun j => (Fm.bin j.o j.a j.b).o) (fun j => [(j.ad, rd j.src (j.i + (inText j.o j.a j.b).length))]))
theorem scRForm : FnScope ["self", "room", "sign"] ["self", "room"] (defScope sRForm) := ⟨rfl, rfl, rfl, by decide +kernel, rfl, by decide +kernel, by decide +kernel⟩
theorem scPair : FnScope ["self", "room", "one", "sign", "other"] ["self", "room"] (defScope sPair) := ⟨rfl, rfl, rfl, by decide +kernel, rfl, by decide +kernel, by decide +kernel⟩
/-- what the reader's walk leans on -/
structure RdKit (P : Program) (w : World) (K : PySem.W.Frag) (mg : Str → Option Value) (base : Heap) : Prop where
  skip : SkipD P w K mg base 2
  sign : SignD P w K mg base 1
  isLet : IsLetD P w K mg base 2
  letter : LetterD P w K mg base 7
  tru : CstD P w K mg base "true" true 7
  fal : CstD P w K mg base "false" false 7
  neg : NegD P w K mg base 7
  and : BinD' P w K mg base "__and__" .an 7
  or : BinD' P w K mg base "__or__" .orr 7
  shr : BinD' P w K mg base "__rshift__" .im 7
  sf : ∀ C, mg "Formula" = some (.ref C) → PySem.W.selfFirst K C = true
theorem tl_bin {o : Op} {a b : Fm} (h : ¬ (o = .im ∧ b = .cst false)) : tl (Fm.bin o a b).t = 40 :: inText o a b := by
  have e : (Fm.bin o a b).t = ("(" : Str) ++ a.t ++ o.s ++ b.t ++ (")" : Str) := by
    conv => lhs; unfold Fm.t
    exact if_neg h
  rw [e, tl_app, tl_app, tl_app, tl_app, show tl (("(" : Str)) = [40] by decide +kernel, show tl ((")" : Str)) = [41] by decide +kernel]
  unfold inText; simp
theorem tl_neg {a : Fm} : tl (Fm.bin .im a (.cst false)).t = 45 :: tl a.t := by
  have e : (Fm.bin .im a (.cst false)).t = ("-" : Str) ++ a.t := by
    conv => lhs; unfold Fm.t
    exact if_pos ⟨rfl, rfl⟩
  rw [e, tl_app, show tl (("-" : Str)) = [45] by decide +kernel]; rfl
theorem sgn (c : Nat) (s : Str) (h : tl s = [c]) : s = sg c := ext_tl (by rw [h]; rfl)
theorem t1 : (("1" : Str)) = sg 49 := sgn _ _ (by decide +kernel)
theorem t0 : (("0" : Str)) = sg 48 := sgn _ _ (by decide +kernel)
theorem tm : (("-" : Str)) = sg 45 := sgn _ _ (by decide +kernel)
theorem tb : (("(" : Str)) = sg 40 := sgn _ _ (by decide +kernel)
theorem sg_ne {a b : Nat} (h : a ≠ b) : decide (sg a = sg b) = false := by
  rw [decide_eq_false_iff_not]
  intro z
  have := congrArg tl z
  simp at this; exact h this
theorem sg_eq {a : Nat} : decide (sg a = sg a) = true := by simp
theorem no_let {c : Nat} (h : c < 97) : isLet (sg c) = false := by
  show decide (c ∈ alpha) = false
  rw [decide_eq_false_iff_not]
  intro z
  obtain ⟨k, _, rfl⟩ := List.mem_map.mp z
  omega
theorem let_ge {c : Nat} (h : c ∈ alpha) : 97 ≤ c := by
  obtain ⟨k, _, rfl⟩ := List.mem_map.mp h
  omega
theorem first_sign (f : Fm) : ∃ c r, tl f.t = c :: r := by
  cases f with
  | cst b => cases b <;> exact ⟨_, _, rfl⟩
  | le c => exact ⟨c, [], rfl⟩
  | bin o a b =>
    by_cases h : o = .im ∧ b = .cst false
    · obtain ⟨rfl, rfl⟩ := h
      exact ⟨_, _, tl_neg⟩
    · exact ⟨_, _, tl_bin h⟩
theorem ok_rform {f C : Addr} {fd : FuncData} (F : Fun K "formula" "Reader.formula" sRForm f fd) (hC : ∃ C, mg "Reader" = some (.ref C) ∧ Cls K C ∧ Meth K C "formula" f) (hb : Binds K fd ["self", "room"] []) (B : Blt mg) (T : RdT w K mg C) (Kt : RdKit P w K mg base) (n : Nat) (k : Nat) (hk : 8 ≤ k)
    (ih : n ≠ 0 → RFormD P w K mg base (n - 1) k ∧ RPairD P w K mg base (n - 1) k) : RFormD P w K mg base n (k + 1) := by
  refine mth_of hC F scRForm hb (fun i => rfl) fun cdv A outer s H0 E j M Q hp hr kq => ?_
  obtain ⟨ad, src, i, g⟩ := j
  obtain ⟨ok, sz, ne, st, le⟩ := hp
  dsimp only at ok sz ne st le kq
  have np := nest_pos g
  obtain ⟨ih1, ih2⟩ := ih (by omega)
  have hr8 : Room 8 _ := hr.mono hk
  obtain ⟨c, r, hcr⟩ := first_sign g
  have st' : Std (tl src) i (c :: r) := hcr ▸ st
  have hsn := st'.sign
  have stR : Std (tl src) (i + 1) r := Std.right (t := [c]) (u := r) st'
  refine at_if (b0 := false) (cs1 := [(ad, rd src i)]) ?_ (fun h => by cases h) (fun _ => at_nil ?_)
  · exact ET.eq (t_cmp (e_name 1 rfl) e_int (by walk_at "cd")) (by simp; omega)
  refine at_set 2 (d := .str (sg c)) (EE.eq (e_mc0 (ns := rn) (ds := [.str src, .int (i : Nat)]) Kt.sign (hr8.mono (by decide)) (e_name 0 rfl) (.head _) (by decide +kernel) ⟨ad, src, i⟩ le rfl rfl rfl .here rfl) (by rw [hsn])) ?_ scRForm.nd
  refine at_fldaug (cn := "Reader") (ns := rn) (ds := [.str src, .int (i : Nat)]) (i := (i : Int)) (j := 1) 1 (e_name 0 rfl) e_int T.hm T.cl (T.no _ (by decide +kernel)) (by decide) (by decide +kernel) rfl .here ?_
  refine at_eqC (cs2 := [(ad, rd src (i + 1))]) ?_ rfl
  have tlen : (tl g.t).length = r.length + 1 := by rw [hcr]; rfl
  cases g with
  | le d =>
    obtain ⟨rfl, rfl⟩ : d = c ∧ [] = r := by
      have e1 : [d] = c :: r := hcr
      simpa using e1
    refine at_if (b0 := true) (cs1 := [(ad, rd src (i + 1))]) (t_val (EE.eq (e_call Kt.isLet (hr8.mono (by decide)) (a_cons (e_name 2 rfl) a_nil) (sg d) (by show 1 ≤ 100000; decide) rfl) (by rw [isLet_sg ok]))) (fun _ => ?_) (fun h => by cases h)
    refine at_eqC (cs2 := [(ad, rd src (i + (tl (Fm.le d).t).length))]) ?_ rfl
    exact at_end (d := (Fm.le d).o) (e_statE Kt.letter (hr8.mono (show 7 ≤ 8 by decide)) (a_cons (e_name 2 rfl) a_nil) d ok rfl) rfl (.head _) kq
  | cst b =>
    have hc : c = (if b then 49 else 48) ∧ r = [] := by
      have : tl (Fm.cst b).t = [if b then 49 else 48] := by cases b <;> decide +kernel
      rw [this] at hcr
      simp at hcr
      exact ⟨hcr.1.symm, by first | exact hcr.2 | exact hcr.2.symm⟩
    obtain ⟨rfl, rfl⟩ := hc
    refine at_if (b0 := false) (cs1 := [(ad, rd src (i + 1))]) (t_val (EE.eq (e_call Kt.isLet (hr8.mono (by decide)) (a_cons (e_name 2 rfl) a_nil) (sg _) (by show 1 ≤ 100000; decide) rfl) (by rw [no_let (by split <;> decide)]))) (fun h => by cases h) (fun _ => at_nil ?_)
    refine at_if (b0 := true) (cs1 := [(ad, rd src (i + 1))]) (ET.eq (t_ew (t_or (t_cmp (e_name 2 rfl) e_str (by walk_at "cd")) fun _ => t_or1 (t_cmp (e_name 2 rfl) e_str (by walk_at "cd")))) (by
      rw [t1, t0]; cases b <;> decide +kernel)) (fun _ => ?_) (fun h => by cases h)
    refine at_eqC (cs2 := [(ad, rd src (i + (tl (Fm.cst b).t).length))]) ?_ (by rw [tlen]; rfl)
    refine at_end (e_if (x := (Fm.cst b).o) (t_cmp (e_name 2 rfl) e_str (by walk_at "cd")) rfl (fun h => ?_) (fun h => ?_)) rfl (.head _) kq
    · cases b with
      | true => exact EE.eq (e_stat0 Kt.tru (hr8.mono (by decide)) () trivial rfl) rfl
      | false => rw [t1, show sg (if false = true then 49 else 48) = sg 48 from rfl, sg_ne (by decide)] at h; cases h
    · cases b with
      | true => rw [t1] at h; simp at h
      | false => exact EE.eq (e_stat0 Kt.fal (hr8.mono (by decide)) () trivial rfl) rfl
  | bin o a b =>
    have hs : (Fm.bin o a b).sz = 1 + (a.sz + b.sz) := rfl
    have hn : (Fm.bin o a b).nest = 1 + max a.nest b.nest := rfl
    by_cases hneg : o = .im ∧ b = .cst false
    · obtain ⟨rfl, rfl⟩ := hneg
      have hs2 : 1 + (a.sz + 1) ≤ 9000 := sz
      have hn2 : 1 + max a.nest 1 ≤ n := ne
      rw [tl_neg] at hcr
      obtain ⟨rfl, rfl⟩ := List.cons.inj hcr.symm
      refine at_if (b0 := false) (cs1 := [(ad, rd src (i + 1))]) (t_val (EE.eq (e_call Kt.isLet (hr8.mono (by decide)) (a_cons (e_name 2 rfl) a_nil) (sg _) (by show 1 ≤ 100000; decide) rfl) (by rw [no_let (by decide)]))) (fun h => by cases h) (fun _ => at_nil ?_)
      refine at_if (b0 := false) (cs1 := [(ad, rd src (i + 1))]) (ET.eq (t_ew (t_or (t_cmp (e_name 2 rfl) e_str (by walk_at "cd")) fun _ => t_or1 (t_cmp (e_name 2 rfl) e_str (by walk_at "cd")))) (by
        rw [t1, t0]; decide +kernel)) (fun h => by cases h) (fun _ => at_nil ?_)
      refine at_if (b0 := true) (cs1 := [(ad, rd src (i + 1))]) (ET.eq (t_cmp (e_name 2 rfl) e_str (by walk_at "cd")) (by rw [tm]; decide +kernel)) (fun _ => ?_) (fun h => by cases h)
      refine at_eqC (cs2 := [(ad, rd src (i + 1))]) ?_ rfl
      refine at_end (c1 := [(ad, rd src (i + (tl (Fm.bin .im a (.cst false)).t).length))]) (e_neg' Kt.neg (hr8.mono (by decide)) ⟨ok.1, by omega⟩ (e_mc (ns := rn) (ds := [.str src, .int ((i + 1 : Nat) : Int)]) ih1 hr (e_name 0 rfl) (.head _) (a_cons (e_bin (e_name 1 rfl) e_int (by walk_at "bd")) a_nil) (by decide +kernel) ⟨ad, src, i + 1, a⟩ ⟨ok.1, by show a.sz ≤ 9000; omega, by show a.nest ≤ n - 1; omega, stR, le⟩ (by
        show [D.ref ad, D.int ((n : Int) - 1)] = [D.ref ad, D.int ((n - 1 : Nat) : Int)]
        rw [show ((n : Int) - 1) = ((n - 1 : Nat) : Int) by omega]) rfl (by
        show [(ad, rd src (i + 1 + (tl a.t).length))] = _
        rw [tl_neg, show i + (45 :: tl a.t).length = i + 1 + (tl a.t).length by simp; omega]) .here rfl)) rfl (.head _) kq
    · rw [tl_bin hneg] at hcr
      obtain ⟨rfl, rfl⟩ := List.cons.inj hcr.symm
      refine at_if (b0 := false) (cs1 := [(ad, rd src (i + 1))]) (t_val (EE.eq (e_call Kt.isLet (hr8.mono (by decide)) (a_cons (e_name 2 rfl) a_nil) (sg _) (by show 1 ≤ 100000; decide) rfl) (by rw [no_let (by decide)]))) (fun h => by cases h) (fun _ => at_nil ?_)
      refine at_if (b0 := false) (cs1 := [(ad, rd src (i + 1))]) (ET.eq (t_ew (t_or (t_cmp (e_name 2 rfl) e_str (by walk_at "cd")) fun _ => t_or1 (t_cmp (e_name 2 rfl) e_str (by walk_at "cd")))) (by
        rw [t1, t0]; decide +kernel)) (fun h => by cases h) (fun _ => at_nil ?_)
      refine at_if (b0 := false) (cs1 := [(ad, rd src (i + 1))]) (ET.eq (t_cmp (e_name 2 rfl) e_str (by walk_at "cd")) (by rw [tm]; decide +kernel)) (fun h => by cases h) (fun _ => at_nil ?_)
      refine at_if (b0 := false) (cs1 := [(ad, rd src (i + 1))]) (ET.eq (t_cmp (e_name 2 rfl) e_str cd_neS) (by rw [tb]; decide +kernel)) (fun h => by cases h) (fun _ => at_nil ?_)
      refine at_end (c1 := [(ad, rd src (i + (tl (Fm.bin o a b).t).length))]) (e_mc (ns := rn) (ds := [.str src, .int ((i + 1 : Nat) : Int)]) ih2 hr (e_name 0 rfl) (.head _) (a_cons (e_bin (e_name 1 rfl) e_int (by walk_at "bd")) a_nil) (by decide +kernel) ⟨ad, src, i + 1, o, a, b⟩ ⟨ok.1, ok.2, by simp only; omega, by simp only; omega, by simp only; omega, stR, le⟩ (by
        show [D.ref ad, D.int ((n : Int) - 1)] = [D.ref ad, D.int ((n - 1 : Nat) : Int)]
        rw [show ((n : Int) - 1) = ((n - 1 : Nat) : Int) by omega]) rfl (by
        show [(ad, rd src (i + 1 + (inText o a b).length))] = _
        rw [tl_bin hneg, show i + (40 :: inText o a b).length = i + 1 + (inText o a b).length by simp; omega]) .here rfl) rfl (.head _) kq
theorem inText_parts {o : Op} {a b : Fm} {s : List Nat} {i : Nat} (h : Std s i (inText o a b)) : Std s i (tl a.t) ∧ Std s (i + (tl a.t).length) (tl o.s) ∧ Std s (i + (tl a.t).length + (tl o.s).length) (tl b.t) ∧ Std s (i + (tl a.t).length + (tl o.s).length + (tl b.t).length) [41] := by
  unfold inText at h
  have h1 := h.left
  have h2 := h1.left
  have e3 := Std.right (t := tl a.t ++ tl o.s ++ tl b.t) (u := [41]) h
  have e2 := Std.right (t := tl a.t ++ tl o.s) (u := tl b.t) h1
  have e1 := Std.right (t := tl a.t) (u := tl o.s) h2
  simp only [List.length_append] at e2 e3
  refine ⟨h2.left, e1, ?_, ?_⟩
  · rw [show i + (tl a.t).length + (tl o.s).length = i + ((tl a.t).length + (tl o.s).length) by omega]; exact e2
  · rw [show i + (tl a.t).length + (tl o.s).length + (tl b.t).length = i + ((tl a.t).length + (tl o.s).length + (tl b.t).length) by omega]; exact e3
/-- the sign of the operator -/
def opc : Op → Nat
  | .an => 38
  | .orr => 124
  | .im => 45
def opt : Op → List Nat
  | .an => [38]
  | .orr => [124]
  | .im => [45, 62]
def ops : Op → Str
  | .an => "&"
  | .orr => "|"
  | .im => "->"
theorem tl_ops (o : Op) : tl (ops o) = opt o := by cases o <;> decide +kernel
theorem tl_os (o : Op) : tl o.s = 32 :: (opt o ++ [32]) := by cases o <;> decide +kernel
theorem opt_c (o : Op) : ∃ r, opt o = opc o :: r := by cases o <;> exact ⟨_, rfl⟩
theorem tsp : tl ((" " : Str)) = [32] := by decide +kernel
theorem tcl : tl ((")" : Str)) = [41] := by decide +kernel
theorem ok_rpair {f : Addr} {fd : FuncData} (F : Fun K "pair" "Reader.pair" sPair f fd) (hC : ∃ C, mg "Reader" = some (.ref C) ∧ Cls K C ∧ Meth K C "pair" f) (hb : Binds K fd ["self", "room"] []) (B : Blt mg) (Kt : RdKit P w K mg base) (n : Nat) (k : Nat) (hk : 8 ≤ k) (ih : RFormD P w K mg base n k) : RPairD P w K mg base n (k + 1) := by
  refine mth_of hC F scPair hb (fun i => rfl) fun cdv A outer s H0 E j M Q hp hr kq => ?_
  obtain ⟨ad, src, i, o, a, b⟩ := j
  obtain ⟨oka, okb, sz, na, nb, st, le⟩ := hp
  dsimp only at oka okb sz na nb st le kq
  have hr8 : Room 8 _ := hr.mono hk
  obtain ⟨s1, s2, s3, s4⟩ := inText_parts st
  rw [tl_os] at s2
  have q1 : Std (tl src) (i + (tl a.t).length) [32] := Std.left (u := opt o ++ [32]) s2
  have q2 : Std (tl src) (i + (tl a.t).length + 1) (opt o ++ [32]) := Std.right (t := [32]) (u := opt o ++ [32]) s2
  have q3 : Std (tl src) (i + (tl a.t).length + 1) (opt o) := q2.left
  have q4 : Std (tl src) (i + (tl a.t).length + 1 + (opt o).length) [32] := q2.right
  obtain ⟨ro, hro⟩ := opt_c o
  have hsn := Std.sign (s := src) (hro ▸ q3)
  have lo : (tl o.s).length = 1 + (opt o).length + 1 := by rw [tl_os]; simp; omega
  generalize hi1 : i + (tl a.t).length = i1 at q1 q2 q3 q4 s2 s3 s4 hsn
  refine at_set 2 (d := a.o) (cs1 := [(ad, rd src i1)]) (e_mc (ns := rn) (ds := [.str src, .int ((i : Nat) : Int)]) ih hr (e_name 0 rfl) (.head _) (a_cons (e_name 1 rfl) a_nil) (by decide +kernel) ⟨ad, src, i, a⟩ ⟨oka, by show a.sz ≤ 9000; omega, na, s1, le⟩ rfl rfl (by show [(ad, rd src (i + (tl a.t).length))] = _; rw [hi1]) .here rfl) ?_ scPair.nd
  refine at_expr (d := .non) (cs1 := [(ad, rd src (i1 + 1))]) (e_mc (ns := rn) (ds := [.str src, .int ((i1 : Nat) : Int)]) Kt.skip (hr8.mono (by decide)) (e_name 0 rfl) (.head _) (a_cons e_str a_nil) (by decide +kernel) ⟨ad, src, i1, " "⟩ ⟨by rw [tsp]; exact q1, by rw [tsp]; simp, le⟩ rfl rfl rfl .here rfl) ?_
  refine at_set 3 (d := .str (sg (opc o))) (cs1 := [(ad, rd src (i1 + 1))]) (EE.eq (e_mc0 (ns := rn) (ds := [.str src, .int ((i1 + 1 : Nat) : Int)]) Kt.sign (hr8.mono (by decide)) (e_name 0 rfl) (.head _) (by decide +kernel) ⟨ad, src, i1 + 1⟩ le rfl rfl rfl .here rfl) (by rw [hsn])) ?_ scPair.nd
  refine at_expr (d := .non) (cs1 := [(ad, rd src (i1 + 1 + (opt o).length))]) (e_mc (ns := rn) (ds := [.str src, .int ((i1 + 1 : Nat) : Int)]) Kt.skip (hr8.mono (by decide)) (e_name 0 rfl) (.head _) (a_cons (EE.eq (x := .str (ops o)) (e_if (t_cmp (e_name 3 rfl) e_str (by walk_at "cd")) rfl (fun h => ?_) (fun h => e_if (t_cmp (e_name 3 rfl) (e_tup (a_cons e_str (a_cons e_str a_nil))) cd_inT2) rfl (fun h2 => ?_) (fun h2 => ?_))) rfl) a_nil) (by decide +kernel) ⟨ad, src, i1 + 1, ops o⟩ ⟨by rw [tl_ops]; exact q3, by rw [tl_ops, hro]; simp, le⟩ rfl rfl (by show [(ad, rd src (i1 + 1 + (tl (ops o)).length))] = _; rw [tl_ops]) .here rfl) ?_
  · cases o with
    | im => exact e_str
    | an => exact absurd h (by decide +kernel)
    | orr => exact absurd h (by decide +kernel)
  · cases o with
    | im => exact absurd h (by decide +kernel)
    | an => exact (e_name 3 rfl).eq (congrArg D.str (by decide +kernel))
    | orr => exact (e_name 3 rfl).eq (congrArg D.str (by decide +kernel))
  · cases o with
    | im => exact absurd h (by decide +kernel)
    | an => exact absurd h2 (by decide +kernel)
    | orr => exact absurd h2 (by decide +kernel)
  refine at_expr (d := .non) (cs1 := [(ad, rd src (i1 + (tl o.s).length))]) (e_mc (ns := rn) (ds := [.str src, .int ((i1 + 1 + (opt o).length : Nat) : Int)]) Kt.skip (hr8.mono (by decide)) (e_name 0 rfl) (.head _) (a_cons e_str a_nil) (by decide +kernel) ⟨ad, src, i1 + 1 + (opt o).length, " "⟩ ⟨by rw [tsp]; exact q4, by rw [tsp]; simp, le⟩ rfl rfl (by
    show [(ad, rd src (i1 + 1 + (opt o).length + (tl ((" " : Str))).length))] = _
    rw [tsp, lo, show i1 + 1 + (opt o).length + [32].length = i1 + (1 + (opt o).length + 1) by simp; omega]) .here rfl) ?_
  generalize hi2 : i1 + (tl o.s).length = i2 at s3 s4
  refine at_set 4 (d := b.o) (cs1 := [(ad, rd src (i2 + (tl b.t).length))]) (e_mc (ns := rn) (ds := [.str src, .int ((i2 : Nat) : Int)]) ih hr (e_name 0 rfl) (.head _) (a_cons (e_name 1 rfl) a_nil) (by decide +kernel) ⟨ad, src, i2, b⟩ ⟨okb, by show b.sz ≤ 9000; omega, nb, s3, le⟩ rfl rfl rfl .here rfl) ?_ scPair.nd
  refine at_expr (d := .non) (cs1 := [(ad, rd src (i + (inText o a b).length))]) (e_mc (ns := rn) (ds := [.str src, .int ((i2 + (tl b.t).length : Nat) : Int)]) Kt.skip (hr8.mono (by decide)) (e_name 0 rfl) (.head _) (a_cons e_str a_nil) (by decide +kernel) ⟨ad, src, i2 + (tl b.t).length, ")"⟩ ⟨by rw [tcl]; exact s4, by rw [tcl]; simp, le⟩ rfl rfl (by
    show [(ad, rd src (i2 + (tl b.t).length + (tl ((")" : Str))).length))] = _
    rw [tcl, ← hi2, ← hi1, show i + (inText o a b).length = i + (tl a.t).length + (tl o.s).length + (tl b.t).length + [41].length by unfold inText; simp; omega]) .here rfl) ?_
  refine at_if (b0 := decide (o = .an)) (cs1 := [(ad, rd src (i + (inText o a b).length))]) (ET.eq (t_cmp (e_name 3 rfl) e_str (by walk_at "cd")) (by cases o <;> decide +kernel)) (fun h => ?_) (fun h => at_nil ?_)
  · obtain rfl : o = .an := by simpa using h
    exact at_end (e_opF Kt.and Kt.sf (hr8.mono (by decide)) ⟨oka, okb, by omega⟩ (e_name 2 rfl) (e_name 4 rfl)) rfl (.head _) kq
  · refine at_end (d := (Fm.bin o a b).o) (e_if (b := _) (t_cmp (e_name 3 rfl) e_str (by walk_at "cd")) rfl (fun h2 => ?_) (fun h2 => ?_)) rfl (.head _) kq
    · cases o with
      | orr => exact e_opF Kt.or Kt.sf (hr8.mono (by decide)) ⟨oka, okb, by omega⟩ (e_name 2 rfl) (e_name 4 rfl)
      | an => simp at h
      | im => exact absurd h2 (by decide +kernel)
    · cases o with
      | im => exact e_opF Kt.shr Kt.sf (hr8.mono (by decide)) ⟨oka, okb, by omega⟩ (e_name 2 rfl) (e_name 4 rfl)
      | an => simp at h
      | orr => exact absurd h2 (by decide +kernel)
theorem all_read {ff fp C : Addr} {fdf fdp : FuncData} (F1 : Fun K "formula" "Reader.formula" sRForm ff fdf) (h1 : ∃ C, mg "Reader" = some (.ref C) ∧ Cls K C ∧ Meth K C "formula" ff) (b1 : Binds K fdf ["self", "room"] []) (F2 : Fun K "pair" "Reader.pair" sPair fp fdp) (h2 : ∃ C, mg "Reader" = some (.ref C) ∧ Cls K C ∧ Meth K C "pair" fp) (b2 : Binds K fdp ["self", "room"] []) (B : Blt mg) (T : RdT w K mg C) (Kt : RdKit P w K mg base) :
    ∀ n, RFormD P w K mg base n (9 + 2 * n) ∧ RPairD P w K mg base n (10 + 2 * n) := by
  intro n
  induction n with
  | zero =>
    have z := ok_rform F1 h1 b1 B T Kt 0 8 (Nat.le_refl _) fun h => absurd rfl h
    exact ⟨z, ok_rpair F2 h2 b2 B Kt 0 9 (by decide) z⟩
  | succ n ih =>
    have z := ok_rform F1 h1 b1 B T Kt (n + 1) (10 + 2 * n) (by omega) fun _ => ⟨ih.1.up (by omega), ih.2⟩
    have e : 9 + 2 * (n + 1) = 10 + 2 * n + 1 := by omega
    have e2 : 10 + 2 * (n + 1) = 10 + 2 * n + 1 + 1 := by omega
    rw [e, e2]
    exact ⟨z, ok_rpair F2 h2 b2 B Kt (n + 1) (10 + 2 * n + 1) (by omega) z⟩
end
end Od

set_option Elab.async false
set_option linter.all false
set_option maxRecDepth 100000
set_option maxHeartbeats 4000000
/-! K6c: read_formula, the law's text -/
namespace Od
open PySem L2 TL PySem.Spec
abbrev sText2 : Stmt := top 27
local macro_rules
  | `(tactic| walk_at "bd") => `(tactic| first | exact bd_add | exact bd_sub | exact bd_mulR (by decide) | exact bd_mulL (by decide) | exact bd_mod (by decide) | exact bd_div (by decide))
local macro_rules
  | `(tactic| walk_at "cd") => `(tactic| first | exact cd_lt | exact cd_le | exact cd_gt | exact cd_ge | exact cd_eqI | exact cd_eqS | exact cd_eqB)
section
variable {P : Program} {w : World} {K : PySem.W.Frag} {mg : Str → Option Value} {base : Heap}
structure RdPre (f : Fm) : Prop where
  ok : f.ok
  sz : f.sz ≤ 9000
  ne : f.nest ≤ 60
abbrev ReadSp (K : PySem.W.Frag) (mg : Str → Option Value) : Sp := puSp K mg RdPre (fun f => [.str f.t]) (fun f => f.o)
theorem scReadF : FnScope ["text", "reader", "found"] ["text"] (defScope sReadF) := ⟨rfl, rfl, rfl, by decide +kernel, rfl, by decide +kernel, by decide +kernel⟩
theorem ok_readF {f C CF : Addr} {fd : FuncData} (F : Fun K "read_formula" "read_formula" sReadF f fd) (B : Blt mg) (T : RdT w K mg C) (MR : MkR P w K mg base 1) (RF : RFormD P w K mg base 60 129) (PT : M0D P w K mg base "text" (fun f => .str f.t) 1) (hmo : ∃ mc u, mg "Formula" = some (.ref CF) ∧ ClX.CRead K CF mc ∧ ClX.CVal K CF mc "MOST_NESTED" (.int 60) u) : FnOk P w K mg base CX0 131 f fd ["text"] (ReadSp K mg) := by
  refine fnok_of (k := 130) F scReadF (fun i => rfl) fun cdv A outer s H0 E g M Q hp hr kq => ?_
  obtain ⟨ok, sz, ne⟩ := hp
  have hl := g.t_len
  have hlt : g.t.length = (tl g.t).length := len_tl g.t
  obtain ⟨mc, u, mo1, mo2, mo3⟩ := hmo
  refine at_if (b0 := false) (cs1 := []) ?_ (fun h => by cases h) (fun _ => at_nil ?_)
  · exact t_not (k0 := true) (t_val (e_blt (kd_isi (t := "str") (n := "str") (b := true) rfl (by decide +kernel)) (a_cons (e_name 0 rfl) (a_cons (e_gty (t := "str") B.str) a_nil)) B.isinstance))
  refine at_setC (ws := [.str g.t, .int ((0 : Nat) : Int)]) 1 MR (hr.mono (by decide)) (a_cons (e_name 0 rfl) a_nil) g.t trivial rfl rfl (fun q => ?_) scReadF.nd
  refine at_eqC (cs2 := [(q, rd g.t 0)]) ?_ rfl
  refine at_set 2 (d := g.o) (cs1 := [(q, rd g.t (tl g.t).length)]) (e_mc (ns := rn) (ds := [.str g.t, .int ((0 : Nat) : Int)]) RF (hr.mono (by decide)) (e_name 1 rfl) (.head _) (a_cons (e_ccon mo1 mo2 mo3) a_nil) (by decide +kernel) ⟨q, g.t, 0, g⟩ ⟨ok, sz, ne, ⟨[], by simp⟩, by show g.t.length ≤ 100000; omega⟩ rfl rfl (by
    show [(q, rd g.t (0 + (tl g.t).length))] = _
    rw [Nat.zero_add]) .here rfl) ?_ scReadF.nd
  refine at_if (b0 := false) (cs1 := [(q, rd g.t (tl g.t).length)]) (ET.eq (t_ew (t_or (t_cmp (e_fldc (e_name 1 rfl) (.head _) T.hm T.cl (T.no _ (by decide +kernel)) 1 (by decide +kernel) rfl) (e_blt (kd_lenS (Nat.le_trans (by omega : g.t.length ≤ 100000) (by decide))) (a_cons (e_name 0 rfl) a_nil) B.len) cd_neI) fun _ => t_or1 (t_cmp (e_fm PT (hr.mono (by decide)) (e_name 2 rfl)) (e_name 0 rfl) cd_neS))) (by rw [hlt]; simp)) (fun h => by cases h) (fun _ => at_nil ?_)
  exact at_done (M0 := M) (c2 := []) (e_name 2 rfl) (.head _) (fun a h => .inl h) (by simp) (by simp) rfl kq
/-! the law's text -/
abbrev LTextD (P : Program) (w : World) (K : PySem.W.Frag) (mg : Str → Option Value) (base : Heap) (n k : Nat) : Prop := Dfn P w K mg base "_law_text" k (puSp K mg (fun f : Fm => f.nest ≤ n ∧ f.sz ≤ 9000) (fun f => [f.d]) (fun f => .str f.t))
theorem scText2 : FnScope ["_law_mine", "_law_sign"] ["_law_mine"] (defScope sText2) := ⟨rfl, rfl, rfl, by decide +kernel, rfl, by decide +kernel, by decide +kernel⟩
theorem cw_eq (b : Bool) : decide (cw b = ("false" : Str)) = !b := by cases b <;> decide +kernel
theorem fd_first (b : Fm) : ∃ r, b.d = .tup (.str b.w :: r) := by cases b <;> exact ⟨_, rfl⟩
theorem w_false (b : Fm) : decide (b.w = ("false" : Str)) = decide (b = .cst false) := by
  cases b with
  | cst c => cases c <;> decide +kernel
  | le c => rw [decide_eq_false (show ¬ Fm.le c = Fm.cst false from fun z => by cases z)]; exact (by decide +kernel : decide (("letter" : Str) = "false") = false)
  | bin o a b => rw [decide_eq_false (show ¬ Fm.bin o a b = Fm.cst false from fun z => by cases z)]; exact Op.noF o
theorem ok_ltext {f : Addr} {fd : FuncData} (F : Fun K "_law_text" "_law_text" sText2 f fd) (hm : mg "_law_text" = some (.ref f)) (hb : Binds K fd ["_law_mine"] []) : ∀ n, LTextD P w K mg base n (2 + n) := by
  intro n
  induction n with
  | zero => exact dfn_of F hm scText2 hb (fun i => rfl) fun cdv A outer s H0 E g M Q hp hr kq => absurd hp.1 (by have := nest_pos g; omega)
  | succ n ih =>
    refine dfn_of F hm scText2 hb (fun i => rfl) fun cdv A outer s H0 E g M Q hp hr kq => ?_
    obtain ⟨hn, hsz⟩ := hp
    have hu := hu_of hr
    cases g with
    | le c =>
      refine at_if (t_cmp (e_ix (e_name 0 rfl) e_int (xd_tup (j := 0) rfl rfl)) e_str (by walk_at "cd")) (fun _ => ?_) fun h => by simp at h
      exact at_end (e_ix (e_name 0 rfl) e_int (xd_tup (j := 1) rfl rfl)) rfl (.head _) kq
    | cst b =>
      refine at_if (t_cmp (e_ix (e_name 0 rfl) e_int (xd_tup (j := 0) rfl rfl)) e_str (by walk_at "cd")) (fun h => by rw [cw_ne] at h; cases h) fun _ => at_nil ?_
      refine at_if (t_cmp (e_ix (e_name 0 rfl) e_int (xd_tup (j := 0) rfl rfl)) (e_tup (a_cons e_str (a_cons e_str a_nil))) cd_inT2) (fun _ => ?_) fun h => by rw [cw_TF] at h; cases h
      refine at_end (e_dix2 (s := cw b) (t := ct b) (e_ix (e_name 0 rfl) e_int (xd_tup (j := 0) rfl rfl)) ?_ hu) rfl (.head _) kq
      cases b <;> rfl
    | bin o a b =>
      have hs2 : 1 + (a.sz + b.sz) ≤ 9000 := hsz
      have ht2 : 1 + max a.nest b.nest ≤ n + 1 := hn
      have ha := a.t_len
      have hbl := b.t_len
      have z : ∀ n : Nat, n ≤ 100000 → n ≤ sizeLine := fun n h => Nat.le_trans h (by decide)
      have l1 : (("-" : Str)).length = 1 := by decide +kernel
      have l2 : (("(" : Str)).length = 1 := by decide +kernel
      have l3 : ((")" : Str)).length = 1 := by decide +kernel
      have l4 : o.s.length ≤ 4 := by cases o <;> decide +kernel
      obtain ⟨r, hbd⟩ := fd_first b
      have i0 : ixN (D.str b.w :: r).length 0 = some 0 := ixN_nat (n := (D.str b.w :: r).length) (j := 0) (by simp)
      refine at_if (t_cmp (e_ix (e_name 0 rfl) e_int (xd_tup (j := 0) rfl rfl)) e_str (by walk_at "cd")) (fun h => by rw [Op.w_ne] at h; cases h) fun _ => at_nil ?_
      refine at_if (t_cmp (e_ix (e_name 0 rfl) e_int (xd_tup (j := 0) rfl rfl)) (e_tup (a_cons e_str (a_cons e_str a_nil))) cd_inT2) (fun h => by rw [Op.noTF] at h; cases h) fun _ => at_nil ?_
      refine at_if (b0 := decide (o = .im ∧ b = .cst false)) (ET.eq (t_ew (t_and (t_cmp (e_ix (e_name 0 rfl) e_int (xd_tup (j := 0) rfl rfl)) e_str (by walk_at "cd")) fun _ => t_and1 (t_cmp (e_ix ((e_ix (e_name 0 rfl) e_int (xd_tup (d := b.d) (j := 2) rfl rfl)).eq hbd) e_int (xd_tup (j := 0) i0 rfl)) e_str (by walk_at "cd")))) ?_) (fun h => ?_) fun h => at_nil ?_
      · have h1 : decide (o.w = ("if" : Str)) = decide (o = .im) := by cases o <;> decide +kernel
        show (decide (o.w = ("if" : Str)) && decide (b.w = ("false" : Str))) = _
        rw [h1, w_false]; simp
      · simp only [decide_eq_true_eq] at h
        have e : (Fm.bin o a b).t = ("-" : Str) ++ a.t := by
          conv => lhs; unfold Fm.t
          exact if_pos h
        refine at_end (e_bin e_str (EE.eq (e_call ih hr (a_cons (e_ix (e_name 0 rfl) e_int (xd_tup (j := 1) rfl rfl)) a_nil) a ⟨by omega, by omega⟩ rfl) rfl) (bd_addS (z _ (by omega)))) ?_ (.head _) kq
        rw [e]
      · simp only [decide_eq_false_iff_not] at h
        have e : (Fm.bin o a b).t = ("(" : Str) ++ a.t ++ o.s ++ b.t ++ (")" : Str) := by
          conv => lhs; unfold Fm.t
          exact if_neg h
        refine at_set 1 (d := .str o.s) (e_dix3 (s := o.w) (e_ix (e_name 0 rfl) e_int (xd_tup (j := 0) rfl rfl)) (by cases o <;> rfl) hu) ?_ scText2.nd
        refine at_end (e_bin (e_bin (e_bin (e_bin e_str (EE.eq (e_call ih hr (a_cons (e_ix (e_name 0 rfl) e_int (xd_tup (j := 1) rfl rfl)) a_nil) a ⟨by omega, by omega⟩ rfl) rfl) (bd_addS (z _ (by omega)))) (e_name 1 rfl) (bd_addS (z _ (by rw [len_app]; omega)))) (EE.eq (e_call ih hr (a_cons (e_ix (e_name 0 rfl) e_int (xd_tup (j := 2) rfl rfl)) a_nil) b ⟨by omega, by omega⟩ rfl) rfl) (bd_addS (z _ (by rw [len_app, len_app]; omega)))) e_str (bd_addS (z _ (by rw [len_app, len_app, len_app]; omega)))) ?_ (.head _) kq
        rw [e]
end
end Od

set_option Elab.async false
set_option linter.all false
set_option maxRecDepth 100000
set_option maxHeartbeats 4000000
/-! K6d: the law's walk -/
namespace Od
open PySem L2 TL PySem.Spec
abbrev sLaw : Stmt := top 31
local macro_rules
  | `(tactic| walk_at "bd") => `(tactic| first | exact bd_add | exact bd_sub | exact bd_mulR (by decide) | exact bd_mulL (by decide) | exact bd_mod (by decide) | exact bd_div (by decide))
local macro_rules
  | `(tactic| walk_at "le") => `(tactic| repeat (first | exact LeD.nil | apply LeD.drop | apply LeD.same))
theorem kd_strS {X : Cx} {s : Str} : CalD X (.type "str") [.str s] (.str s) := ⟨_, SkE.call_str_str, fun M H vs Q mt hv k => by
  obtain ⟨v, rfl, r⟩ := rs1 hv
  simp only [R] at r
  exact ⟨s, by rw [r], k _ H (Ext.refl _ _) (by simp [R])⟩⟩
section
variable {X : Cx} {M : Addr → Prop} {e : DE} {cs cs1 cs2 cs3 : Cs} {pos p pos' apos : Pos} {a c ex o x : Expr}
theorem e_eqF {f g : Fm} {k : Nat} (F : EqD X.prog X.w X.K X.mg X.base k) (hn : ∀ C, X.mg "Formula" = some (.ref C) → PySem.W.notFirst X.K C (.ref C) = true) (hr : Room k X.A) (ha : EE X M e cs a f.o cs1) (hb : EE X M e cs1 x g.o cs2) (hm : behindInMarks .Eq x = false := by first | exact nomark _ | rfl) : EE X M e cs (.Compare a [.Eq] [x] pos) (.bl (decide (f.t = g.t))) cs2 :=
  e_cmp (ha.eq f.o_eq) (hb.eq g.o_eq) (cd_own (cn := "Formula") (ns := fnames) (ds := f.fs) (es' := g.fs) F hn hr (f, g) trivial (by rw [f.o_eq, g.o_eq]) rfl) hm
theorem t_neF {f g : Fm} {k : Nat} (F : EqD X.prog X.w X.K X.mg X.base k) (hn : ∀ C, X.mg "Formula" = some (.ref C) → NeF X.K C) (hr : Room (k + 1) X.A) (ha : EE X M e cs a f.o cs1) (hb : EE X M e cs1 x g.o cs2) (hm : behindInMarks .NotEq x = false := by first | exact nomark _ | rfl) : ET X M e cs (.Compare a [.NotEq] [x] pos) (!decide (f.t = g.t)) cs2 :=
  t_cmp (ha.eq f.o_eq) (hb.eq g.o_eq) (cd_neOwn (cn := "Formula") (ns := fnames) (ds := f.fs) (es' := g.fs) F hn hr (f, g) trivial (by rw [f.o_eq, g.o_eq]) rfl) hm
theorem e_signs {ad : Addr} {b : Bag} {m : Int} {n k : Nat} (F : SignsD X.prog X.w X.K X.mg X.base k) (hr : Room k X.A) (ha : EE X M e cs a (.ref ad) cs) (hx : EE X M e cs x (.int m) cs1) (hm : m = n) (hu : Upd1 ad b.c (signsF b n).2.c cs1 cs2) (ok : b.Ok) (hn : n < 64) (hg : Gl X "_law_signs" := by rfl)
    (he : starEach [a, x] X.env = (false, eval a X.env) :: starEach [x] X.env := by rfl) (he2 : starEach [x] X.env = (false, eval x X.env) :: starEach [] X.env := by rfl) (hpl : (backTo pos (starEach [x] X.env)).any (·.1) = false := by rfl) : EE X M e cs (.Call (.Name "_law_signs" p) [a, x] [] pos) (.str (strOf (signsF b n).1)) cs2 :=
  e_call1 F hr (a_cons ha (a_cons hx a_nil he2) he) ⟨ad, b, n⟩ ⟨ok, hn⟩ (by rw [hm]) rfl rfl hu hg (by decide) he hpl
theorem e_same {d : D} {n k : Nat} (F : SameD X.prog X.w X.K X.mg X.base n k) (hr : Room k X.A) (hp : plD n d) (ha : EE X M e cs a d cs1) (hx : EE X M e cs1 x d cs2) (hg : Gl X "_law_same" := by rfl)
    (he : starEach [a, x] X.env = (false, eval a X.env) :: starEach [x] X.env := by rfl) (he2 : starEach [x] X.env = (false, eval x X.env) :: starEach [] X.env := by rfl) (hpl : (backTo pos (starEach [x] X.env)).any (·.1) = false := by rfl)
    (hv : ∀ whole, isTrue (.Call (.Name "_law_same" p) [a, x] [] pos) X.env whole = (do let v ← whole; standAt (Expr.pos (.Call (.Name "_law_same" p) [a, x] [] pos)); holding [v] (truthy v)) := by intro _; rfl) : ET X M e cs (.UnaryOp .Not (.Call (.Name "_law_same" p) [a, x] [] pos) pos') false cs2 :=
  t_not (k0 := true) (t_val (EE.eq (e_call F hr (a_cons ha (a_cons hx a_nil he2) he) d hp rfl hg (by decide) he hpl) rfl) hv)
end
section
variable {P : Program} {w : World} {K : PySem.W.Frag} {mg : Str → Option Value} {base : Heap}
theorem ok_str {f C : Addr} {fd : FuncData} (F : Fun K "__str__" "Formula.__str__" sStr f fd) (hC : ∃ C, mg "Formula" = some (.ref C) ∧ PySem.W.findIn K (.ref C) "__str__" = some (some (.ref f)) ∧ PySem.W.isFn K (.ref f) = true) (hb : Binds K fd ["self"] []) (B : Blt mg) (T : FmT w K mg C) : StrFD P w K mg base "__str__" (fun f => f.t) 2 := by
  refine dun_of hC F scStrF hb (fun i => rfl) fun cdv A outer s H0 E g M Q hp hr kq => ?_
  exact at_end (e_bty kd_strS (a_cons (e_f T 2 (e_name 0 rfl) rfl) a_nil) B.str) rfl (.head _) kq
def dpD (l : List Int) (b : Bag) : Int := l.getD (draw b l.length).1.toNat 0
theorem dpD_item {l : List Int} {b : Bag} (h : 0 < l.length) : itemD (.lst (l.map D.int)) (draw b l.length).1.toNat = .int (dpD l b) := by
  obtain ⟨_, h2⟩ := draw_ix (b := b) h
  show (l.map D.int).getD (draw b l.length).1.toNat .non = _
  simp [List.getD, dpD, h2]
theorem dpD_mem {l : List Int} {b : Bag} (h : 0 < l.length) : dpD l b ∈ l := by
  obtain ⟨_, h2⟩ := draw_ix (b := b) h
  simp [List.getD, dpD, h2]
def negn (f : Fm) : Nat → Fm
  | 0 => f
  | n + 1 => .bin .im (negn f n) (.cst false)
theorem negn_facts {f : Fm} (h : f.ok) : ∀ n, (negn f n).ok ∧ (negn f n).sz = f.sz + 2 * n ∧ (negn f n).nest = f.nest + n
  | 0 => ⟨h, rfl, rfl⟩
  | n + 1 => by
    obtain ⟨h1, h2, h3⟩ := negn_facts h n
    have := nest_pos f
    refine ⟨⟨h1, trivial⟩, ?_, ?_⟩
    · show 1 + ((negn f n).sz + 1) = _; omega
    · show 1 + max (negn f n).nest 1 = _; omega
abbrev LawPre (ns : List Int) : Prop := ns.length ≤ 63
theorem scLaw : FnScope ["_law_script", "_law_bag", "_law_turn", "_law_mine", "_law_step", "_law_made_here", "_law_due", "_law_told", "_law_one_here", "_law_two"] ["_law_script"] (defScope sLaw) := ⟨rfl, rfl, rfl, by decide +kernel, rfl, by decide +kernel, by decide +kernel⟩
structure Kit (P : Program) (w : World) (K : PySem.W.Frag) (mg : Str → Option Value) (base : Heap) : Prop where
  B : Blt mg
  repr : mg "repr" = none
  cells : CellsD P w K mg base 2
  draw : DrawD P w K mg base 3
  one : OneD P w K mg base 4
  signs : SignsD P w K mg base 5
  form : ∀ n, FormD P w K mg base n (6 + n)
  made : ∀ n, MadeD P w K mg base n (7 + n)
  size : ∀ n, RecD P w K mg base "_law_size" (fun f => .int (f.sz : Nat)) n (3 + n)
  nested : ∀ n, RecD P w K mg base "_law_nested" (fun f => .int (f.nest : Nat)) n (3 + n)
  text : ∀ n, LTextD P w K mg base n (2 + n)
  same : ∀ n, SameD P w K mg base n (3 + n)
  neg : NegD P w K mg base 7
  or : BinD' P w K mg base "__or__" .orr 7
  shr : BinD' P w K mg base "__rshift__" .im 7
  sf : ∀ C, mg "Formula" = some (.ref C) → PySem.W.selfFirst K C = true
  eq : EqD P w K mg base 2
  notFirst : ∀ C, mg "Formula" = some (.ref C) → PySem.W.notFirst K C (.ref C) = true
  ne : ∀ C, mg "Formula" = some (.ref C) → NeF K C
  letter : LetterD P w K mg base 7
  tru : CstD P w K mg base "true" true 7
  str : StrFD P w K mg base "__str__" (fun f => f.t) 2
  rep : StrFD P w K mg base "__repr__" reprF 2
  psize : PropD P w K mg base "size" (fun f => .int (f.sz : Nat)) 1
  ptext : M0D P w K mg base "text" (fun f => .str f.t) 1
  read : Dfn P w K mg base "read_formula" 131 (ReadSp K mg)
  readK : DfnK P w K mg base "read_formula" "text" 131 (ReadSp K mg)
theorem ok_law {f : Addr} {fd : FuncData} (F : Fun K "law" "law" sLaw f fd) (T : Kit P w K mg base) : FnOk P w K mg base CX0 141 f fd ["_law_script"] (fnSp K mg LawPre (fun ns => [.scr ns]) (fun _ => []) (fun _ => .bl true) (fun _ => [])) := by
  refine fnok_of (k := 140) F scLaw (fun i => rfl) fun cdv A outer s H0 E ns M Q hp hr kq => ?_
  have B := T.B
  refine at_setN 1 T.cells (hr.mono (by decide)) (a_cons (e_name 0 rfl) a_nil) ns hp rfl (fun q => ?_) scLaw.nd
  refine at_eqC (cs2 := [(q, (bag0 ns).c)]) ?_ rfl
  refine at_for (α := fun _ => Bag) (ds := (ups 0 6).map D.int) (fun _ b => b.Ok) (fun _ b => [some (.scr ns), some (.ref q), none, none, none, none, none, none, none, none]) (fun _ b => [(q, b.c)])
    (EI.eq (ei_rng1 e_int B.range (by decide)) rfl) (ltg_name 2 scLaw.nd) (fun _ _ => trivial) (bag0 ns) (bag0_ok ns) rfl rfl (fun _ _ _ => rfl) (fun i d b H1 hd ok => ?_) fun b ok => ?_
  · have hc : CsOk (signsF b 3).1 := ⟨by rw [signsF_len]; omega, by rw [signsF_len]; omega⟩
    have o2 := signsF_ok ok 3
    have hal : ∀ c ∈ (signsF b 3).1, c ∈ alpha := signsF_alpha
    generalize hS : signsF b 3 = S at hc o2 hal
    have o3 := draw_ok o2 4
    have hdi := dpD_item (l := [1, 2, 4, 6]) (b := S.2) (by decide)
    have hdm := dpD_mem (l := [1, 2, 4, 6]) (b := S.2) (by decide)
    generalize dpD [1, 2, 4, 6] S.2 = z2 at hdi hdm
    obtain ⟨n2, rfl, hn2⟩ : ∃ n2 : Nat, z2 = n2 ∧ n2 ≤ 6 := by
      simp only [List.mem_cons, List.not_mem_nil, or_false] at hdm
      exact ⟨z2.toNat, by omega, by omega⟩
    obtain ⟨f1, f2, f3⟩ := formF_fm hc hal n2 (draw S.2 4).2
    have o4 := formF_ok n2 o3 S.1
    refine at_set 3 (e_form (n := n2) (T.form n2) (hr.mono (by omega)) (e_name 1 rfl) (EE.eq (x := .str (strOf S.1)) (cs1 := [(q, S.2.c)]) (by
        subst hS
        exact e_signs T.signs (hr.mono (by decide)) (e_name 1 rfl) e_int rfl .here ok (by decide)) rfl)
      (EE.eq (e_oneL T.one (hr.mono (by decide)) (e_name 1 rfl) (e_lst (a_cons e_int (a_cons e_int (a_cons e_int (a_cons e_int a_nil))))) .here o2 (by decide)) hdi) rfl .here o3 hc) ?_ scLaw.nd
    obtain ⟨fm, bb, hF⟩ : ∃ fm bb, formF n2 (draw S.2 4).2 S.1 = (fm, bb) := ⟨_, _, rfl⟩
    rw [hF] at f1 f2 f3 o4
    dsimp only at f1 f2 f3 o4
    refine at_eqE (e2 := [some (.scr ns), some (.ref q), some d, some fm.d, none, none, none, none, none, none]) (at_eqC (cs2 := [(q, bb.c)]) ?_ (by
      show [(q, (formF n2 (draw S.2 4).2 S.1).2.c)] = _
      rw [hF])) (by
      show [some (D.scr ns), some (D.ref q), some d, some (formF n2 (draw S.2 4).2 S.1).1.d, none, none, none, none, none, none] = _
      rw [hF])
    have hsz : fm.sz < 128 := Nat.lt_of_lt_of_le f2 (by
      have := Nat.pow_le_pow_right (n := 2) (by decide) (show n2 + 1 ≤ 7 by omega)
      simpa using this)
    have hne : fm.nest ≤ 7 := by omega
    have np := nest_pos fm
    have o5 := draw_ok o4 5
    have hmi := dpD_item (l := [0, 0, 1, 2, 60 - (fm.nest : Nat)]) (b := bb) (by simp)
    have hmm := dpD_mem (l := [0, 0, 1, 2, 60 - (fm.nest : Nat)]) (b := bb) (by simp)
    generalize dpD [0, 0, 1, 2, 60 - (fm.nest : Nat)] bb = z3 at hmi hmm
    obtain ⟨m, rfl, hm1⟩ : ∃ m : Nat, z3 = m ∧ m + fm.nest ≤ 60 := by
      simp only [List.mem_cons, List.not_mem_nil, or_false] at hmm
      exact ⟨z3.toNat, by omega, by omega⟩
    have hmi' : itemD (.lst [.int 0, .int 0, .int 1, .int 2, .int (60 - (fm.nest : Nat))]) (draw bb 5).1.toNat = .int (m : Nat) := hmi
    refine at_for (α := fun _ => Unit) (ds := (ups 0 m).map D.int) (fun _ _ => True) (fun i _ => [some (.scr ns), some (.ref q), some d, some (negn fm i).d, none, none, none, none, none, none]) (fun _ _ => [(q, (draw bb 5).2.c)])
      (EI.eq (ei_rng1 (i := (m : Nat)) (EE.eq (e_oneL T.one (hr.mono (by decide)) (e_name 1 rfl) (e_lst (a_cons e_int (a_cons e_int (a_cons e_int (a_cons e_int (a_cons (e_bin e_int (EE.eq (e_call (T.nested 7) (hr.mono (by decide)) (a_cons (e_name 3 rfl) a_nil) fm hne rfl) rfl) (by walk_at "bd")) a_nil))))) (by simp)) .here o4 (by simp [lenD])) hmi') B.range (by omega)) (by simp)) (ltg_name 4 scLaw.nd) (fun _ _ => trivial) () trivial rfl rfl (fun _ _ _ => rfl) (fun i2 d2 u H2 hd2 _ => ?_) fun u _ => ?_
    · refine at_set 3 (d := (negn fm (i2 + 1)).d) (e_tup (a_cons e_str (a_cons (e_name 3 rfl) (a_cons (e_tup (a_cons e_str a_nil)) a_nil)))) ?_ scLaw.nd
      exact at_nil (at_go (at_inv (e := [some (.scr ns), some (.ref q), some d, some (negn fm (i2 + 1)).d, none, none, none, none, none, none]) () trivial rfl rfl) (by walk_at "le") rfl)
    have el : ((ups 0 m).map D.int).length = m := by simp [ups]
    rw [el]
    obtain ⟨g1, g2, g3⟩ := negn_facts f1 m
    generalize negn fm m = gm at g1 g2 g3
    have gl := gm.t_len
    have z : ∀ n : Nat, n ≤ 100000 → n ≤ sizeLine := fun n h => Nat.le_trans h (by decide)
    have l1 : (("Formula(" : Str)).length = 8 := by decide +kernel
    have l2 : ((")" : Str)).length = 1 := by decide +kernel
    have gp : RdPre gm := ⟨g1, by omega, by omega⟩
    refine at_par (x := gm.o) (y := .str gm.t) (cs1 := [(q, (draw bb 5).2.c)]) (cs2 := [(q, (draw bb 5).2.c)]) 5 6 (EE.eq (e_call (T.made 60) (hr.mono (by decide)) (a_cons (e_name 3 rfl) a_nil) gm ⟨g1, by omega, by omega⟩ rfl) rfl) (EE.eq (e_call (T.text 60) (hr.mono (by decide)) (a_cons (e_name 3 rfl) a_nil) gm ⟨by omega, by omega⟩ rfl) rfl) ?_ scLaw.nd (fun ta ha => ps_par rfl scLaw.nd rfl rfl (by decide) rfl rfl ha rfl)
    refine at_if (b0 := false) (cs1 := [(q, (draw bb 5).2.c)]) (e_same (d := .lst [.str gm.t, .str gm.t, .str (reprF gm)]) (n := 1) (T.same 1) (hr.mono (by decide)) ⟨by simp, by simp [plD]⟩
      (e_lst (a_cons (e_fm T.ptext (hr.mono (by decide)) (e_name 5 rfl)) (a_cons (e_bty (kd_strOwn (cn := "Formula") (ns := fnames) (ds := gm.fs) T.str (hr.mono (by decide)) gm (by omega) (by rw [gm.o_eq]) rfl) (a_cons ((e_name 5 rfl).eq gm.o_eq) a_nil) B.str) (a_cons (e_blt (kd_reprOwn (cn := "Formula") (ns := fnames) (ds := gm.fs) T.rep (hr.mono (by decide)) gm (by omega) (by rw [gm.o_eq]) rfl) (a_cons ((e_name 5 rfl).eq gm.o_eq) a_nil) T.repr) a_nil))))
      (e_lst (a_cons (e_name 6 rfl) (a_cons (e_name 6 rfl) (a_cons (EE.eq (e_bin (e_bin e_str (e_name 6 rfl) (bd_addS (z _ (by omega)))) e_str (bd_addS (z _ (by rw [len_app]; omega)))) rfl) a_nil))))) (fun h => by cases h) (fun _ => at_nil ?_)
    refine at_set 7 (d := gm.o) (EE.eq (e_call T.read (hr.mono (by decide)) (a_cons (e_name 6 rfl) a_nil) gm gp rfl) rfl) ?_ scLaw.nd
    refine at_if (b0 := false) (cs1 := [(q, (draw bb 5).2.c)]) (ET.eq (t_ew (t_or (t_neF T.eq T.ne (hr.mono (by decide)) (e_name 7 rfl) (e_name 5 rfl)) fun _ => t_or1 (t_neF (f := gm) T.eq T.ne (hr.mono (by decide)) (e_callK T.readK (hr.mono (by decide)) (e_name 6 rfl) gm gp rfl) (e_name 5 rfl)))) (by simp)) (fun h => by cases h) (fun _ => at_nil ?_)
    refine at_if (b0 := false) (cs1 := [(q, (draw bb 5).2.c)]) (e_same (d := .lst [.str gm.t, .int (gm.sz : Nat)]) (n := 1) (T.same 1) (hr.mono (by decide)) ⟨by simp, by simp [plD]⟩
      (e_lst (a_cons (e_fm T.ptext (hr.mono (by decide)) (e_name 7 rfl)) (a_cons (e_fp T.psize (hr.mono (by decide)) (e_name 7 rfl)) a_nil)))
      (e_lst (a_cons (e_name 6 rfl) (a_cons (EE.eq (e_call (T.size 60) (hr.mono (by decide)) (a_cons (e_name 3 rfl) a_nil) gm (by omega) rfl) rfl) a_nil)))) (fun h => by cases h) (fun _ => at_nil ?_)
    exact at_nil (at_go (at_inv (e := [some (.scr ns), some (.ref q), none, none, none, none, none, none, none, none]) (draw bb 5).2 o5 rfl rfl) (by walk_at "le") rfl)
  · refine at_par (x := (Fm.le 120).o) (y := (Fm.le 121).o) (cs1 := [(q, b.c)]) (cs2 := [(q, b.c)]) 8 9 (e_statE T.letter (hr.mono (show 7 ≤ 140 by decide)) (a_cons e_str a_nil) 120 (by decide +kernel) (by rfl)) (e_statE T.letter (hr.mono (show 7 ≤ 140 by decide)) (a_cons e_str a_nil) 121 (by decide +kernel) (by rfl)) ?_ scLaw.nd (fun ta ha => ps_par rfl scLaw.nd rfl rfl (by decide) rfl rfl ha rfl)
    have h1 : 120 ∈ alpha := by decide +kernel
    have h2 : 121 ∈ alpha := by decide +kernel
    have ht : (Fm.bin .im (.bin .im (.le 120) (.cst false)) (.bin .orr (.le 121) (.cst true))).t = "(-x -> (y | 1))" := by decide +kernel
    exact at_done (M0 := M) (c2 := []) (e_eqF (f := .bin .im (.bin .im (.le 120) (.cst false)) (.bin .orr (.le 121) (.cst true))) (g := .bin .im (.bin .im (.le 120) (.cst false)) (.bin .orr (.le 121) (.cst true))) T.eq T.notFirst (hr.mono (by decide)) (EE.eq (e_call T.read (hr.mono (show 131 ≤ 140 by decide)) (a_cons e_str a_nil) (.bin .im (.bin .im (.le 120) (.cst false)) (.bin .orr (.le 121) (.cst true))) ⟨⟨⟨h1, trivial⟩, h2, trivial⟩, by decide, by decide⟩ (by rw [ht])) rfl)
      (e_opF (f := .bin .im (.le 120) (.cst false)) (g := .bin .orr (.le 121) (.cst true)) T.shr T.sf (hr.mono (show 7 ≤ 140 by decide)) ⟨⟨h1, trivial⟩, ⟨h2, trivial⟩, by decide⟩ (e_neg' (f := .le 120) T.neg (hr.mono (show 7 ≤ 140 by decide)) ⟨h1, by decide⟩ (e_name 8 rfl)) (e_opF (f := .le 121) (g := .cst true) T.or T.sf (hr.mono (show 7 ≤ 140 by decide)) ⟨h2, trivial, by decide⟩ (e_name 9 rfl) (EE.eq (e_stat0 T.tru (hr.mono (show 7 ≤ 140 by decide)) () trivial rfl) rfl)))) (.head _) (fun a h => .inl h) (by simp) (by simp) (by simp) kq
end
end Od

set_option Elab.async false
set_option linter.all false
set_option maxRecDepth 100000
set_option maxHeartbeats 4000000
namespace Od
open PySem L2 TL PySem.Spec
theorem Prp.up {P : Program} {w : World} {K : PySem.W.Frag} {mg : Str → Option Value} {base : Heap} {c m : Str} {k k' : Nat} {sp : Sp} (h : k ≤ k') (F : Prp P w K mg base c m k sp) : Prp P w K mg base c m k' sp := by
  obtain ⟨C, p, g, h1, h2, h3, F⟩ := F.ex
  exact ⟨C, p, g, h1, h2, h3, fun A outer s H us vs Q E hr => F A outer s H us vs Q E (hr.mono h)⟩
theorem Mth.up' {P : Program} {w : World} {K : PySem.W.Frag} {mg : Str → Option Value} {base : Heap} {c m : Str} {k k' : Nat} {sp : Sp} (h : k ≤ k') (F : Mth P w K mg base c m k sp) : Mth P w K mg base c m k' sp := by
  obtain ⟨C, g, h1, h2, h3, F⟩ := F.ex
  exact ⟨C, g, h1, h2, h3, fun A outer s H us vs Q E hr => F A outer s H us vs Q E (hr.mono h)⟩
theorem all_mk {l : PySem.W.OpenLaw} {w : World} {K : PySem.W.Frag} {h : Heap} {mg : Str → Option Value} {fa C R : Addr} (X : K.In h) (G : h.Ns mainGlobals mg) (hfa : mg "law" = some (.ref fa))
    {f_isLet : Addr} {od_isLet an_isLet : Option Addr} {sl_isLet : Array (Option Value)} {oc_isLet kV_isLet dc_isLet pm_isLet cd_isLet ct_isLet : Value}
    {f_letIn : Addr} {od_letIn an_letIn : Option Addr} {sl_letIn : Array (Option Value)} {oc_letIn kV_letIn dc_letIn pm_letIn cd_letIn ct_letIn : Value}
    {f_isForm : Addr} {od_isForm an_isForm : Option Addr} {sl_isForm : Array (Option Value)} {oc_isForm kV_isForm dc_isForm pm_isForm cd_isForm ct_isForm : Value}
    {f_textIn : Addr} {od_textIn an_textIn : Option Addr} {sl_textIn : Array (Option Value)} {oc_textIn kV_textIn dc_textIn pm_textIn cd_textIn ct_textIn : Value}
    {f_cells : Addr} {od_cells an_cells : Option Addr} {sl_cells : Array (Option Value)} {oc_cells kV_cells dc_cells pm_cells cd_cells ct_cells : Value}
    {f_draw : Addr} {od_draw an_draw : Option Addr} {sl_draw : Array (Option Value)} {oc_draw kV_draw dc_draw pm_draw cd_draw ct_draw : Value}
    {f_one : Addr} {od_one an_one : Option Addr} {sl_one : Array (Option Value)} {oc_one kV_one dc_one pm_one cd_one ct_one : Value}
    {f_same : Addr} {od_same an_same : Option Addr} {sl_same : Array (Option Value)} {oc_same kV_same dc_same pm_same cd_same ct_same : Value}
    {f_signs : Addr} {od_signs an_signs : Option Addr} {sl_signs : Array (Option Value)} {oc_signs kV_signs dc_signs pm_signs cd_signs ct_signs : Value}
    {f_leaf : Addr} {od_leaf an_leaf : Option Addr} {sl_leaf : Array (Option Value)} {oc_leaf kV_leaf dc_leaf pm_leaf cd_leaf ct_leaf : Value}
    {f_form : Addr} {od_form an_form : Option Addr} {sl_form : Array (Option Value)} {oc_form kV_form dc_form pm_form cd_form ct_form : Value}
    {f_inner : Addr} {od_inner an_inner : Option Addr} {sl_inner : Array (Option Value)} {oc_inner kV_inner dc_inner pm_inner cd_inner ct_inner : Value}
    {f_made : Addr} {od_made an_made : Option Addr} {sl_made : Array (Option Value)} {oc_made kV_made dc_made pm_made cd_made ct_made : Value}
    {f_lsize : Addr} {od_lsize an_lsize : Option Addr} {sl_lsize : Array (Option Value)} {oc_lsize kV_lsize dc_lsize pm_lsize cd_lsize ct_lsize : Value}
    {f_lnested : Addr} {od_lnested an_lnested : Option Addr} {sl_lnested : Array (Option Value)} {oc_lnested kV_lnested dc_lnested pm_lnested cd_lnested ct_lnested : Value}
    {f_ltext : Addr} {od_ltext an_ltext : Option Addr} {sl_ltext : Array (Option Value)} {oc_ltext kV_ltext dc_ltext pm_ltext cd_ltext ct_ltext : Value}
    {f_need : Addr} {od_need an_need : Option Addr} {sl_need : Array (Option Value)} {oc_need kV_need dc_need pm_need cd_need ct_need : Value}
    {f_readF : Addr} {od_readF an_readF : Option Addr} {sl_readF : Array (Option Value)} {oc_readF kV_readF dc_readF pm_readF cd_readF ct_readF : Value}
    {f_law : Addr} {od_law an_law : Option Addr} {sl_law : Array (Option Value)} {oc_law kV_law dc_law pm_law cd_law ct_law : Value}
    {f_init : Addr} {od_init an_init : Option Addr} {sl_init : Array (Option Value)} {oc_init kV_init dc_init pm_init cd_init ct_init : Value}
    {f_text : Addr} {od_text an_text : Option Addr} {sl_text : Array (Option Value)} {oc_text kV_text dc_text pm_text cd_text ct_text : Value}
    {f_parts : Addr} {od_parts an_parts : Option Addr} {sl_parts : Array (Option Value)} {oc_parts kV_parts dc_parts pm_parts cd_parts ct_parts : Value}
    {f_neg : Addr} {od_neg an_neg : Option Addr} {sl_neg : Array (Option Value)} {oc_neg kV_neg dc_neg pm_neg cd_neg ct_neg : Value}
    {f_eq : Addr} {od_eq an_eq : Option Addr} {sl_eq : Array (Option Value)} {oc_eq kV_eq dc_eq pm_eq cd_eq ct_eq : Value}
    {f_and : Addr} {od_and an_and : Option Addr} {sl_and : Array (Option Value)} {oc_and kV_and dc_and pm_and cd_and ct_and : Value}
    {f_or : Addr} {od_or an_or : Option Addr} {sl_or : Array (Option Value)} {oc_or kV_or dc_or pm_or cd_or ct_or : Value}
    {f_shr : Addr} {od_shr an_shr : Option Addr} {sl_shr : Array (Option Value)} {oc_shr kV_shr dc_shr pm_shr cd_shr ct_shr : Value}
    {f_str : Addr} {od_str an_str : Option Addr} {sl_str : Array (Option Value)} {oc_str kV_str dc_str pm_str cd_str ct_str : Value}
    {f_repr : Addr} {od_repr an_repr : Option Addr} {sl_repr : Array (Option Value)} {oc_repr kV_repr dc_repr pm_repr cd_repr ct_repr : Value}
    {f_rinit : Addr} {od_rinit an_rinit : Option Addr} {sl_rinit : Array (Option Value)} {oc_rinit kV_rinit dc_rinit pm_rinit cd_rinit ct_rinit : Value}
    {f_skip : Addr} {od_skip an_skip : Option Addr} {sl_skip : Array (Option Value)} {oc_skip kV_skip dc_skip pm_skip cd_skip ct_skip : Value}
    {f_sign : Addr} {od_sign an_sign : Option Addr} {sl_sign : Array (Option Value)} {oc_sign kV_sign dc_sign pm_sign cd_sign ct_sign : Value}
    {f_rform : Addr} {od_rform an_rform : Option Addr} {sl_rform : Array (Option Value)} {oc_rform kV_rform dc_rform pm_rform cd_rform ct_rform : Value}
    {f_pair : Addr} {od_pair an_pair : Option Addr} {sl_pair : Array (Option Value)} {oc_pair kV_pair dc_pair pm_pair cd_pair ct_pair : Value}
    {f_pword : Addr} {od_pword an_pword : Option Addr} {sl_pword : Array (Option Value)} {oc_pword kV_pword dc_pword pm_pword cd_pword ct_pword : Value}
    {p_pword : Addr} {r_pword : List Value}
    {f_pletters : Addr} {od_pletters an_pletters : Option Addr} {sl_pletters : Array (Option Value)} {oc_pletters kV_pletters dc_pletters pm_pletters cd_pletters ct_pletters : Value}
    {p_pletters : Addr} {r_pletters : List Value}
    {f_psize : Addr} {od_psize an_psize : Option Addr} {sl_psize : Array (Option Value)} {oc_psize kV_psize dc_psize pm_psize cd_psize ct_psize : Value}
    {p_psize : Addr} {r_psize : List Value}
    {f_pnested : Addr} {od_pnested an_pnested : Option Addr} {sl_pnested : Array (Option Value)} {oc_pnested kV_pnested dc_pnested pm_pnested cd_pnested ct_pnested : Value}
    {p_pnested : Addr} {r_pnested : List Value}
    {f_pdepth : Addr} {od_pdepth an_pdepth : Option Addr} {sl_pdepth : Array (Option Value)} {oc_pdepth kV_pdepth dc_pdepth pm_pdepth cd_pdepth ct_pdepth : Value}
    {p_pdepth : Addr} {r_pdepth : List Value}
    {f_sletter : Addr} {od_sletter an_sletter : Option Addr} {sl_sletter : Array (Option Value)} {oc_sletter kV_sletter dc_sletter pm_sletter cd_sletter ct_sletter : Value}
    {p_sletter : Addr} {r_sletter : List Value}
    {f_strue : Addr} {od_strue an_strue : Option Addr} {sl_strue : Array (Option Value)} {oc_strue kV_strue dc_strue pm_strue cd_strue ct_strue : Value}
    {p_strue : Addr} {r_strue : List Value}
    {f_sfalse : Addr} {od_sfalse an_sfalse : Option Addr} {sl_sfalse : Array (Option Value)} {oc_sfalse kV_sfalse dc_sfalse pm_sfalse cd_sfalse ct_sfalse : Value}
    {p_sfalse : Addr} {r_sfalse : List Value}
    {tmost : Tok}
    {tal : Tok}
    {pa : Addr} {es : Array DictEntry} {ne : Nat} {ta to ti : Tok}
    (aC : PySem.W.nsIn K mainGlobals "Formula" = some (some (.ref C)))
    (a_isLet : PySem.W.nsIn K mainGlobals "is_letter" = some (some (.ref f_isLet)))
    (l_isLet : K.lookup f_isLet = some ⟨oc_isLet, od_isLet, .func (PySem.W.fnOf "is_letter" "is_letter" (defArgs sIsLet) (defBody sIsLet) (defScope sIsLet) .none kV_isLet dc_isLet pm_isLet an_isLet cd_isLet ct_isLet), sl_isLet⟩)
    (c_isLet : PySem.W.codeIn K cd_isLet "is_letter" = true)
    (k_isLet : PySem.W.keepIn K (.ref f_isLet) = true)
    (a_letIn : PySem.W.nsIn K mainGlobals "letters_in" = some (some (.ref f_letIn)))
    (l_letIn : K.lookup f_letIn = some ⟨oc_letIn, od_letIn, .func (PySem.W.fnOf "letters_in" "letters_in" (defArgs sLetIn) (defBody sLetIn) (defScope sLetIn) .none kV_letIn dc_letIn pm_letIn an_letIn cd_letIn ct_letIn), sl_letIn⟩)
    (c_letIn : PySem.W.codeIn K cd_letIn "letters_in" = true)
    (k_letIn : PySem.W.keepIn K (.ref f_letIn) = true)
    (a_isForm : PySem.W.nsIn K mainGlobals "is_form" = some (some (.ref f_isForm)))
    (l_isForm : K.lookup f_isForm = some ⟨oc_isForm, od_isForm, .func (PySem.W.fnOf "is_form" "is_form" (defArgs sIsForm) (defBody sIsForm) (defScope sIsForm) .none kV_isForm dc_isForm pm_isForm an_isForm cd_isForm ct_isForm), sl_isForm⟩)
    (c_isForm : PySem.W.codeIn K cd_isForm "is_form" = true)
    (k_isForm : PySem.W.keepIn K (.ref f_isForm) = true)
    (a_textIn : PySem.W.nsIn K mainGlobals "text_in" = some (some (.ref f_textIn)))
    (l_textIn : K.lookup f_textIn = some ⟨oc_textIn, od_textIn, .func (PySem.W.fnOf "text_in" "text_in" (defArgs sTextIn) (defBody sTextIn) (defScope sTextIn) .none kV_textIn dc_textIn pm_textIn an_textIn cd_textIn ct_textIn), sl_textIn⟩)
    (c_textIn : PySem.W.codeIn K cd_textIn "text_in" = true)
    (k_textIn : PySem.W.keepIn K (.ref f_textIn) = true)
    (a_cells : PySem.W.nsIn K mainGlobals "_law_cells" = some (some (.ref f_cells)))
    (l_cells : K.lookup f_cells = some ⟨oc_cells, od_cells, .func (PySem.W.fnOf "_law_cells" "_law_cells" (defArgs sCells) (defBody sCells) (defScope sCells) .none kV_cells dc_cells pm_cells an_cells cd_cells ct_cells), sl_cells⟩)
    (c_cells : PySem.W.codeIn K cd_cells "_law_cells" = true)
    (k_cells : PySem.W.keepIn K (.ref f_cells) = true)
    (a_draw : PySem.W.nsIn K mainGlobals "_law_draw" = some (some (.ref f_draw)))
    (l_draw : K.lookup f_draw = some ⟨oc_draw, od_draw, .func (PySem.W.fnOf "_law_draw" "_law_draw" (defArgs sDraw) (defBody sDraw) (defScope sDraw) .none kV_draw dc_draw pm_draw an_draw cd_draw ct_draw), sl_draw⟩)
    (c_draw : PySem.W.codeIn K cd_draw "_law_draw" = true)
    (k_draw : PySem.W.keepIn K (.ref f_draw) = true)
    (a_one : PySem.W.nsIn K mainGlobals "_law_one" = some (some (.ref f_one)))
    (l_one : K.lookup f_one = some ⟨oc_one, od_one, .func (PySem.W.fnOf "_law_one" "_law_one" (defArgs sOne) (defBody sOne) (defScope sOne) .none kV_one dc_one pm_one an_one cd_one ct_one), sl_one⟩)
    (c_one : PySem.W.codeIn K cd_one "_law_one" = true)
    (k_one : PySem.W.keepIn K (.ref f_one) = true)
    (a_same : PySem.W.nsIn K mainGlobals "_law_same" = some (some (.ref f_same)))
    (l_same : K.lookup f_same = some ⟨oc_same, od_same, .func (PySem.W.fnOf "_law_same" "_law_same" (defArgs sSame) (defBody sSame) (defScope sSame) .none kV_same dc_same pm_same an_same cd_same ct_same), sl_same⟩)
    (c_same : PySem.W.codeIn K cd_same "_law_same" = true)
    (k_same : PySem.W.keepIn K (.ref f_same) = true)
    (a_signs : PySem.W.nsIn K mainGlobals "_law_signs" = some (some (.ref f_signs)))
    (l_signs : K.lookup f_signs = some ⟨oc_signs, od_signs, .func (PySem.W.fnOf "_law_signs" "_law_signs" (defArgs sSigns) (defBody sSigns) (defScope sSigns) .none kV_signs dc_signs pm_signs an_signs cd_signs ct_signs), sl_signs⟩)
    (c_signs : PySem.W.codeIn K cd_signs "_law_signs" = true)
    (k_signs : PySem.W.keepIn K (.ref f_signs) = true)
    (a_leaf : PySem.W.nsIn K mainGlobals "_law_leaf" = some (some (.ref f_leaf)))
    (l_leaf : K.lookup f_leaf = some ⟨oc_leaf, od_leaf, .func (PySem.W.fnOf "_law_leaf" "_law_leaf" (defArgs sLeaf) (defBody sLeaf) (defScope sLeaf) .none kV_leaf dc_leaf pm_leaf an_leaf cd_leaf ct_leaf), sl_leaf⟩)
    (c_leaf : PySem.W.codeIn K cd_leaf "_law_leaf" = true)
    (k_leaf : PySem.W.keepIn K (.ref f_leaf) = true)
    (a_form : PySem.W.nsIn K mainGlobals "_law_form" = some (some (.ref f_form)))
    (l_form : K.lookup f_form = some ⟨oc_form, od_form, .func (PySem.W.fnOf "_law_form" "_law_form" (defArgs sForm) (defBody sForm) (defScope sForm) .none kV_form dc_form pm_form an_form cd_form ct_form), sl_form⟩)
    (c_form : PySem.W.codeIn K cd_form "_law_form" = true)
    (k_form : PySem.W.keepIn K (.ref f_form) = true)
    (a_inner : PySem.W.nsIn K mainGlobals "_law_inner" = some (some (.ref f_inner)))
    (l_inner : K.lookup f_inner = some ⟨oc_inner, od_inner, .func (PySem.W.fnOf "_law_inner" "_law_inner" (defArgs sInner) (defBody sInner) (defScope sInner) .none kV_inner dc_inner pm_inner an_inner cd_inner ct_inner), sl_inner⟩)
    (c_inner : PySem.W.codeIn K cd_inner "_law_inner" = true)
    (k_inner : PySem.W.keepIn K (.ref f_inner) = true)
    (a_made : PySem.W.nsIn K mainGlobals "_law_made" = some (some (.ref f_made)))
    (l_made : K.lookup f_made = some ⟨oc_made, od_made, .func (PySem.W.fnOf "_law_made" "_law_made" (defArgs sMade) (defBody sMade) (defScope sMade) .none kV_made dc_made pm_made an_made cd_made ct_made), sl_made⟩)
    (c_made : PySem.W.codeIn K cd_made "_law_made" = true)
    (k_made : PySem.W.keepIn K (.ref f_made) = true)
    (a_lsize : PySem.W.nsIn K mainGlobals "_law_size" = some (some (.ref f_lsize)))
    (l_lsize : K.lookup f_lsize = some ⟨oc_lsize, od_lsize, .func (PySem.W.fnOf "_law_size" "_law_size" (defArgs sSize) (defBody sSize) (defScope sSize) .none kV_lsize dc_lsize pm_lsize an_lsize cd_lsize ct_lsize), sl_lsize⟩)
    (c_lsize : PySem.W.codeIn K cd_lsize "_law_size" = true)
    (k_lsize : PySem.W.keepIn K (.ref f_lsize) = true)
    (a_lnested : PySem.W.nsIn K mainGlobals "_law_nested" = some (some (.ref f_lnested)))
    (l_lnested : K.lookup f_lnested = some ⟨oc_lnested, od_lnested, .func (PySem.W.fnOf "_law_nested" "_law_nested" (defArgs sNested) (defBody sNested) (defScope sNested) .none kV_lnested dc_lnested pm_lnested an_lnested cd_lnested ct_lnested), sl_lnested⟩)
    (c_lnested : PySem.W.codeIn K cd_lnested "_law_nested" = true)
    (k_lnested : PySem.W.keepIn K (.ref f_lnested) = true)
    (a_ltext : PySem.W.nsIn K mainGlobals "_law_text" = some (some (.ref f_ltext)))
    (l_ltext : K.lookup f_ltext = some ⟨oc_ltext, od_ltext, .func (PySem.W.fnOf "_law_text" "_law_text" (defArgs sText2) (defBody sText2) (defScope sText2) .none kV_ltext dc_ltext pm_ltext an_ltext cd_ltext ct_ltext), sl_ltext⟩)
    (c_ltext : PySem.W.codeIn K cd_ltext "_law_text" = true)
    (k_ltext : PySem.W.keepIn K (.ref f_ltext) = true)
    (a_need : PySem.W.nsIn K mainGlobals "need_formula" = some (some (.ref f_need)))
    (l_need : K.lookup f_need = some ⟨oc_need, od_need, .func (PySem.W.fnOf "need_formula" "need_formula" (defArgs sNeed) (defBody sNeed) (defScope sNeed) .none kV_need dc_need pm_need an_need cd_need ct_need), sl_need⟩)
    (c_need : PySem.W.codeIn K cd_need "need_formula" = true)
    (k_need : PySem.W.keepIn K (.ref f_need) = true)
    (a_readF : PySem.W.nsIn K mainGlobals "read_formula" = some (some (.ref f_readF)))
    (l_readF : K.lookup f_readF = some ⟨oc_readF, od_readF, .func (PySem.W.fnOf "read_formula" "read_formula" (defArgs sReadF) (defBody sReadF) (defScope sReadF) .none kV_readF dc_readF pm_readF an_readF cd_readF ct_readF), sl_readF⟩)
    (c_readF : PySem.W.codeIn K cd_readF "read_formula" = true)
    (k_readF : PySem.W.keepIn K (.ref f_readF) = true)
    (a_law : PySem.W.nsIn K mainGlobals "law" = some (some (.ref f_law)))
    (l_law : K.lookup f_law = some ⟨oc_law, od_law, .func (PySem.W.fnOf "law" "law" (defArgs sLaw) (defBody sLaw) (defScope sLaw) .none kV_law dc_law pm_law an_law cd_law ct_law), sl_law⟩)
    (c_law : PySem.W.codeIn K cd_law "law" = true)
    (k_law : PySem.W.keepIn K (.ref f_law) = true)
    (a_init : PySem.W.findIn K (.ref C) "__init__" = some (some (.ref f_init)))
    (i_init : PySem.W.isFn K (.ref f_init) = true)
    (l_init : K.lookup f_init = some ⟨oc_init, od_init, .func (PySem.W.fnOf "__init__" "Formula.__init__" (defArgs sInit) (defBody sInit) (defScope sInit) .none kV_init dc_init pm_init an_init cd_init ct_init), sl_init⟩)
    (c_init : PySem.W.codeIn K cd_init "Formula.__init__" = true)
    (k_init : PySem.W.keepIn K (.ref f_init) = true)
    (a_text : PySem.W.findIn K (.ref C) "text" = some (some (.ref f_text)))
    (i_text : PySem.W.isFn K (.ref f_text) = true)
    (l_text : K.lookup f_text = some ⟨oc_text, od_text, .func (PySem.W.fnOf "text" "Formula.text" (defArgs sText) (defBody sText) (defScope sText) .none kV_text dc_text pm_text an_text cd_text ct_text), sl_text⟩)
    (c_text : PySem.W.codeIn K cd_text "Formula.text" = true)
    (k_text : PySem.W.keepIn K (.ref f_text) = true)
    (a_parts : PySem.W.findIn K (.ref C) "parts" = some (some (.ref f_parts)))
    (i_parts : PySem.W.isFn K (.ref f_parts) = true)
    (l_parts : K.lookup f_parts = some ⟨oc_parts, od_parts, .func (PySem.W.fnOf "parts" "Formula.parts" (defArgs sParts) (defBody sParts) (defScope sParts) .none kV_parts dc_parts pm_parts an_parts cd_parts ct_parts), sl_parts⟩)
    (c_parts : PySem.W.codeIn K cd_parts "Formula.parts" = true)
    (k_parts : PySem.W.keepIn K (.ref f_parts) = true)
    (a_neg : PySem.W.findIn K (.ref C) "__neg__" = some (some (.ref f_neg)))
    (i_neg : PySem.W.isFn K (.ref f_neg) = true)
    (l_neg : K.lookup f_neg = some ⟨oc_neg, od_neg, .func (PySem.W.fnOf "__neg__" "Formula.__neg__" (defArgs sNeg) (defBody sNeg) (defScope sNeg) .none kV_neg dc_neg pm_neg an_neg cd_neg ct_neg), sl_neg⟩)
    (c_neg : PySem.W.codeIn K cd_neg "Formula.__neg__" = true)
    (k_neg : PySem.W.keepIn K (.ref f_neg) = true)
    (a_eq : PySem.W.findIn K (.ref C) "__eq__" = some (some (.ref f_eq)))
    (i_eq : PySem.W.isFn K (.ref f_eq) = true)
    (l_eq : K.lookup f_eq = some ⟨oc_eq, od_eq, .func (PySem.W.fnOf "__eq__" "Formula.__eq__" (defArgs sEq) (defBody sEq) (defScope sEq) .none kV_eq dc_eq pm_eq an_eq cd_eq ct_eq), sl_eq⟩)
    (c_eq : PySem.W.codeIn K cd_eq "Formula.__eq__" = true)
    (k_eq : PySem.W.keepIn K (.ref f_eq) = true)
    (a_and : PySem.W.findIn K (.ref C) "__and__" = some (some (.ref f_and)))
    (i_and : PySem.W.isFn K (.ref f_and) = true)
    (l_and : K.lookup f_and = some ⟨oc_and, od_and, .func (PySem.W.fnOf "__and__" "Formula.__and__" (defArgs sAnd) (defBody sAnd) (defScope sAnd) .none kV_and dc_and pm_and an_and cd_and ct_and), sl_and⟩)
    (c_and : PySem.W.codeIn K cd_and "Formula.__and__" = true)
    (k_and : PySem.W.keepIn K (.ref f_and) = true)
    (a_or : PySem.W.findIn K (.ref C) "__or__" = some (some (.ref f_or)))
    (i_or : PySem.W.isFn K (.ref f_or) = true)
    (l_or : K.lookup f_or = some ⟨oc_or, od_or, .func (PySem.W.fnOf "__or__" "Formula.__or__" (defArgs sOr) (defBody sOr) (defScope sOr) .none kV_or dc_or pm_or an_or cd_or ct_or), sl_or⟩)
    (c_or : PySem.W.codeIn K cd_or "Formula.__or__" = true)
    (k_or : PySem.W.keepIn K (.ref f_or) = true)
    (a_shr : PySem.W.findIn K (.ref C) "__rshift__" = some (some (.ref f_shr)))
    (i_shr : PySem.W.isFn K (.ref f_shr) = true)
    (l_shr : K.lookup f_shr = some ⟨oc_shr, od_shr, .func (PySem.W.fnOf "__rshift__" "Formula.__rshift__" (defArgs sShr) (defBody sShr) (defScope sShr) .none kV_shr dc_shr pm_shr an_shr cd_shr ct_shr), sl_shr⟩)
    (c_shr : PySem.W.codeIn K cd_shr "Formula.__rshift__" = true)
    (k_shr : PySem.W.keepIn K (.ref f_shr) = true)
    (a_str : PySem.W.findIn K (.ref C) "__str__" = some (some (.ref f_str)))
    (i_str : PySem.W.isFn K (.ref f_str) = true)
    (l_str : K.lookup f_str = some ⟨oc_str, od_str, .func (PySem.W.fnOf "__str__" "Formula.__str__" (defArgs sStr) (defBody sStr) (defScope sStr) .none kV_str dc_str pm_str an_str cd_str ct_str), sl_str⟩)
    (c_str : PySem.W.codeIn K cd_str "Formula.__str__" = true)
    (k_str : PySem.W.keepIn K (.ref f_str) = true)
    (a_repr : PySem.W.findIn K (.ref C) "__repr__" = some (some (.ref f_repr)))
    (i_repr : PySem.W.isFn K (.ref f_repr) = true)
    (l_repr : K.lookup f_repr = some ⟨oc_repr, od_repr, .func (PySem.W.fnOf "__repr__" "Formula.__repr__" (defArgs sRepr) (defBody sRepr) (defScope sRepr) .none kV_repr dc_repr pm_repr an_repr cd_repr ct_repr), sl_repr⟩)
    (c_repr : PySem.W.codeIn K cd_repr "Formula.__repr__" = true)
    (k_repr : PySem.W.keepIn K (.ref f_repr) = true)
    (aR : PySem.W.nsIn K mainGlobals "Reader" = some (some (.ref R)))
    (a_rinit : PySem.W.findIn K (.ref R) "__init__" = some (some (.ref f_rinit)))
    (i_rinit : PySem.W.isFn K (.ref f_rinit) = true)
    (l_rinit : K.lookup f_rinit = some ⟨oc_rinit, od_rinit, .func (PySem.W.fnOf "__init__" "Reader.__init__" (defArgs sRInit) (defBody sRInit) (defScope sRInit) .none kV_rinit dc_rinit pm_rinit an_rinit cd_rinit ct_rinit), sl_rinit⟩)
    (c_rinit : PySem.W.codeIn K cd_rinit "Reader.__init__" = true)
    (k_rinit : PySem.W.keepIn K (.ref f_rinit) = true)
    (a_skip : PySem.W.findIn K (.ref R) "skip" = some (some (.ref f_skip)))
    (i_skip : PySem.W.isFn K (.ref f_skip) = true)
    (l_skip : K.lookup f_skip = some ⟨oc_skip, od_skip, .func (PySem.W.fnOf "skip" "Reader.skip" (defArgs sSkip) (defBody sSkip) (defScope sSkip) .none kV_skip dc_skip pm_skip an_skip cd_skip ct_skip), sl_skip⟩)
    (c_skip : PySem.W.codeIn K cd_skip "Reader.skip" = true)
    (k_skip : PySem.W.keepIn K (.ref f_skip) = true)
    (a_sign : PySem.W.findIn K (.ref R) "sign" = some (some (.ref f_sign)))
    (i_sign : PySem.W.isFn K (.ref f_sign) = true)
    (l_sign : K.lookup f_sign = some ⟨oc_sign, od_sign, .func (PySem.W.fnOf "sign" "Reader.sign" (defArgs sSign) (defBody sSign) (defScope sSign) .none kV_sign dc_sign pm_sign an_sign cd_sign ct_sign), sl_sign⟩)
    (c_sign : PySem.W.codeIn K cd_sign "Reader.sign" = true)
    (k_sign : PySem.W.keepIn K (.ref f_sign) = true)
    (a_rform : PySem.W.findIn K (.ref R) "formula" = some (some (.ref f_rform)))
    (i_rform : PySem.W.isFn K (.ref f_rform) = true)
    (l_rform : K.lookup f_rform = some ⟨oc_rform, od_rform, .func (PySem.W.fnOf "formula" "Reader.formula" (defArgs sRForm) (defBody sRForm) (defScope sRForm) .none kV_rform dc_rform pm_rform an_rform cd_rform ct_rform), sl_rform⟩)
    (c_rform : PySem.W.codeIn K cd_rform "Reader.formula" = true)
    (k_rform : PySem.W.keepIn K (.ref f_rform) = true)
    (a_pair : PySem.W.findIn K (.ref R) "pair" = some (some (.ref f_pair)))
    (i_pair : PySem.W.isFn K (.ref f_pair) = true)
    (l_pair : K.lookup f_pair = some ⟨oc_pair, od_pair, .func (PySem.W.fnOf "pair" "Reader.pair" (defArgs sPair) (defBody sPair) (defScope sPair) .none kV_pair dc_pair pm_pair an_pair cd_pair ct_pair), sl_pair⟩)
    (c_pair : PySem.W.codeIn K cd_pair "Reader.pair" = true)
    (k_pair : PySem.W.keepIn K (.ref f_pair) = true)
    (a_pword : PySem.W.findIn K (.ref C) "word" = some (some (.ref p_pword)))
    (g_pword : PySem.W.specialIn K (.ref p_pword) "__get__" = some (some (.builtin "property.__get__")))
    (t_pword : PySem.W.takesIn K (.ref p_pword) = some true)
    (q_pword : PySem.W.recIn K p_pword "property" = some (.ref f_pword :: r_pword))
    (l_pword : K.lookup f_pword = some ⟨oc_pword, od_pword, .func (PySem.W.fnOf "word" "Formula.word" (defArgs s_word) (defBody s_word) (defScope s_word) .none kV_pword dc_pword pm_pword an_pword cd_pword ct_pword), sl_pword⟩)
    (c_pword : PySem.W.codeIn K cd_pword "Formula.word" = true)
    (k_pword : PySem.W.keepIn K (.ref f_pword) = true)
    (a_pletters : PySem.W.findIn K (.ref C) "letters" = some (some (.ref p_pletters)))
    (g_pletters : PySem.W.specialIn K (.ref p_pletters) "__get__" = some (some (.builtin "property.__get__")))
    (t_pletters : PySem.W.takesIn K (.ref p_pletters) = some true)
    (q_pletters : PySem.W.recIn K p_pletters "property" = some (.ref f_pletters :: r_pletters))
    (l_pletters : K.lookup f_pletters = some ⟨oc_pletters, od_pletters, .func (PySem.W.fnOf "letters" "Formula.letters" (defArgs s_letters) (defBody s_letters) (defScope s_letters) .none kV_pletters dc_pletters pm_pletters an_pletters cd_pletters ct_pletters), sl_pletters⟩)
    (c_pletters : PySem.W.codeIn K cd_pletters "Formula.letters" = true)
    (k_pletters : PySem.W.keepIn K (.ref f_pletters) = true)
    (a_psize : PySem.W.findIn K (.ref C) "size" = some (some (.ref p_psize)))
    (g_psize : PySem.W.specialIn K (.ref p_psize) "__get__" = some (some (.builtin "property.__get__")))
    (t_psize : PySem.W.takesIn K (.ref p_psize) = some true)
    (q_psize : PySem.W.recIn K p_psize "property" = some (.ref f_psize :: r_psize))
    (l_psize : K.lookup f_psize = some ⟨oc_psize, od_psize, .func (PySem.W.fnOf "size" "Formula.size" (defArgs s_size) (defBody s_size) (defScope s_size) .none kV_psize dc_psize pm_psize an_psize cd_psize ct_psize), sl_psize⟩)
    (c_psize : PySem.W.codeIn K cd_psize "Formula.size" = true)
    (k_psize : PySem.W.keepIn K (.ref f_psize) = true)
    (a_pnested : PySem.W.findIn K (.ref C) "nested" = some (some (.ref p_pnested)))
    (g_pnested : PySem.W.specialIn K (.ref p_pnested) "__get__" = some (some (.builtin "property.__get__")))
    (t_pnested : PySem.W.takesIn K (.ref p_pnested) = some true)
    (q_pnested : PySem.W.recIn K p_pnested "property" = some (.ref f_pnested :: r_pnested))
    (l_pnested : K.lookup f_pnested = some ⟨oc_pnested, od_pnested, .func (PySem.W.fnOf "nested" "Formula.nested" (defArgs s_nested) (defBody s_nested) (defScope s_nested) .none kV_pnested dc_pnested pm_pnested an_pnested cd_pnested ct_pnested), sl_pnested⟩)
    (c_pnested : PySem.W.codeIn K cd_pnested "Formula.nested" = true)
    (k_pnested : PySem.W.keepIn K (.ref f_pnested) = true)
    (a_pdepth : PySem.W.findIn K (.ref C) "depth" = some (some (.ref p_pdepth)))
    (g_pdepth : PySem.W.specialIn K (.ref p_pdepth) "__get__" = some (some (.builtin "property.__get__")))
    (t_pdepth : PySem.W.takesIn K (.ref p_pdepth) = some true)
    (q_pdepth : PySem.W.recIn K p_pdepth "property" = some (.ref f_pdepth :: r_pdepth))
    (l_pdepth : K.lookup f_pdepth = some ⟨oc_pdepth, od_pdepth, .func (PySem.W.fnOf "depth" "Formula.depth" (defArgs s_depth) (defBody s_depth) (defScope s_depth) .none kV_pdepth dc_pdepth pm_pdepth an_pdepth cd_pdepth ct_pdepth), sl_pdepth⟩)
    (c_pdepth : PySem.W.codeIn K cd_pdepth "Formula.depth" = true)
    (k_pdepth : PySem.W.keepIn K (.ref f_pdepth) = true)
    (crd : PySem.W.readsIn K C (.type "type") = true)
    (cga : PySem.W.specialIn K (.ref C) "__getattribute__" = some (some (.builtin "type.__getattribute__")))
    (a_sletter : PySem.W.findCls K (.ref C) (.type "type") "letter" = some (.get (.builtin "staticmethod.__get__") (.ref p_sletter) .none (.ref C)))
    (q_sletter : PySem.W.recIn K p_sletter "staticmethod" = some (.ref f_sletter :: r_sletter))
    (l_sletter : K.lookup f_sletter = some ⟨oc_sletter, od_sletter, .func (PySem.W.fnOf "letter" "Formula.letter" (defArgs sLetter) (defBody sLetter) (defScope sLetter) .none kV_sletter dc_sletter pm_sletter an_sletter cd_sletter ct_sletter), sl_sletter⟩)
    (c_sletter : PySem.W.codeIn K cd_sletter "Formula.letter" = true)
    (k_sletter : PySem.W.keepIn K (.ref f_sletter) = true)
    (a_strue : PySem.W.findCls K (.ref C) (.type "type") "true" = some (.get (.builtin "staticmethod.__get__") (.ref p_strue) .none (.ref C)))
    (q_strue : PySem.W.recIn K p_strue "staticmethod" = some (.ref f_strue :: r_strue))
    (l_strue : K.lookup f_strue = some ⟨oc_strue, od_strue, .func (PySem.W.fnOf "true" "Formula.true" (defArgs sTrue) (defBody sTrue) (defScope sTrue) .none kV_strue dc_strue pm_strue an_strue cd_strue ct_strue), sl_strue⟩)
    (c_strue : PySem.W.codeIn K cd_strue "Formula.true" = true)
    (k_strue : PySem.W.keepIn K (.ref f_strue) = true)
    (a_sfalse : PySem.W.findCls K (.ref C) (.type "type") "false" = some (.get (.builtin "staticmethod.__get__") (.ref p_sfalse) .none (.ref C)))
    (q_sfalse : PySem.W.recIn K p_sfalse "staticmethod" = some (.ref f_sfalse :: r_sfalse))
    (l_sfalse : K.lookup f_sfalse = some ⟨oc_sfalse, od_sfalse, .func (PySem.W.fnOf "false" "Formula.false" (defArgs sFalse) (defBody sFalse) (defScope sFalse) .none kV_sfalse dc_sfalse pm_sfalse an_sfalse cd_sfalse ct_sfalse), sl_sfalse⟩)
    (c_sfalse : PySem.W.codeIn K cd_sfalse "Formula.false" = true)
    (k_sfalse : PySem.W.keepIn K (.ref f_sfalse) = true)
    (most : PySem.W.findCls K (.ref C) (.type "type") "MOST_NESTED" = some (.val (.int 60 tmost)))
    (pg : PySem.W.plainGet K C Str.empty = true)
    (hd : PySem.W.hasDictIn K C = true)
    (po : PySem.W.plainOver K C = true)
    (sa : PySem.W.findIn K (.ref C) "__setattr__" = some (some (.builtin "object.__setattr__")))
    (mk : PySem.W.makesIn K C = true)
    (kc : PySem.W.keepIn K (.ref C) = true)
    (ca : PySem.W.findIn K (.ref C) "__class__" = some (some (.builtin "object.__class__")))
    (cn : PySem.W.specialIn K (.builtin "object.__class__") "__get__" = some (some (.builtin "getset_descriptor.__get__")))
    (ct : PySem.W.takesIn K (.builtin "object.__class__") = some true)
    (cm : PySem.W.mroIn K C (.type "object") = some true)
    (nf : PySem.W.notFirst K C (.ref C) = true)
    (sf : PySem.W.selfFirst K C = true)
    (nne : PySem.W.findIn K (.ref C) "__ne__" = some (some (.builtin "object.__ne__")))
    (Rpg : PySem.W.plainGet K R Str.empty = true)
    (Rhd : PySem.W.hasDictIn K R = true)
    (Rpo : PySem.W.plainOver K R = true)
    (Rsa : PySem.W.findIn K (.ref R) "__setattr__" = some (some (.builtin "object.__setattr__")))
    (Rmk : PySem.W.makesIn K R = true)
    (Rkc : PySem.W.keepIn K (.ref R) = true)
    (nsource : PySem.W.findIn K (.ref R) "source" = some none)
    (nat : PySem.W.findIn K (.ref R) "at" = some none)
    (n_own_word : PySem.W.findIn K (.ref C) "own_word" = some none)
    (n_own_parts : PySem.W.findIn K (.ref C) "own_parts" = some none)
    (n_own_text : PySem.W.findIn K (.ref C) "own_text" = some none)
    (n_own_size : PySem.W.findIn K (.ref C) "own_size" = some none)
    (n_own_nested : PySem.W.findIn K (.ref C) "own_nested" = some none)
    (n_own_depth : PySem.W.findIn K (.ref C) "own_depth" = some none)
    (n_own_letters : PySem.W.findIn K (.ref C) "own_letters" = some none)
    (al : PySem.W.nsIn K mainGlobals "ALPHABET" = some (some (.str "abcdefghijklmnopqrstuvwxyz" tal)))
    (aS : PySem.W.nsIn K mainGlobals "SIGNS" = some (some (.ref pa)))
    (lS : K.lookup pa = some ⟨.type "dict", none, .dict es ne, #[]⟩)
    (kS : PySem.W.KeysLit w.params es.toList)
    (vA : PySem.W.nsIn K pa "and" = some (some (.str " & " ta)))
    (vO : PySem.W.nsIn K pa "or" = some (some (.str " | " to)))
    (vI : PySem.W.nsIn K pa "if" = some (some (.str " -> " ti)))
    (z_len : PySem.W.nsIn K mainGlobals "len" = some none)
    (z_int : PySem.W.nsIn K mainGlobals "int" = some none)
    (z_list : PySem.W.nsIn K mainGlobals "list" = some none)
    (z_sorted : PySem.W.nsIn K mainGlobals "sorted" = some none)
    (z_range : PySem.W.nsIn K mainGlobals "range" = some none)
    (z_isinstance : PySem.W.nsIn K mainGlobals "isinstance" = some none)
    (z_all : PySem.W.nsIn K mainGlobals "all" = some none)
    (z_any : PySem.W.nsIn K mainGlobals "any" = some none)
    (z_zip : PySem.W.nsIn K mainGlobals "zip" = some none)
    (z_sum : PySem.W.nsIn K mainGlobals "sum" = some none)
    (z_max : PySem.W.nsIn K mainGlobals "max" = some none)
    (z_str : PySem.W.nsIn K mainGlobals "str" = some none)
    (z_bool : PySem.W.nsIn K mainGlobals "bool" = some none)
    (z_tuple : PySem.W.nsIn K mainGlobals "tuple" = some none)
    (z_set : PySem.W.nsIn K mainGlobals "set" = some none)
    (z_repr : PySem.W.nsIn K mainGlobals "repr" = some none)
    : ∃ fd : FuncData, (∀ (s : Shared) (v : Value), BindsTo s fd ⟨[v], []⟩ [("_law_script", v)]) ∧ ∀ base : Heap, K.In base → base.Ns mainGlobals mg → FnOk l.prog w K mg base CX0 141 fa fd ["_law_script"] (fnSp K mg LawPre (fun ns => [.scr ns]) (fun _ => []) (fun _ => .bl true) (fun _ => [])) := by
  have e := hfa.symm.trans (PySem.W.mg_of X G a_law)
  cases e
  have mC := PySem.W.mg_of X G aC
  have cl : Cls K C := ⟨pg, hd, po, sa⟩
  have B : Blt mg := ⟨PySem.W.mg_none_of X G z_len, PySem.W.mg_none_of X G z_int, PySem.W.mg_none_of X G z_list, PySem.W.mg_none_of X G z_sorted, PySem.W.mg_none_of X G z_range, PySem.W.mg_none_of X G z_isinstance, PySem.W.mg_none_of X G z_all, PySem.W.mg_none_of X G z_any, PySem.W.mg_none_of X G z_zip, PySem.W.mg_none_of X G z_sum, PySem.W.mg_none_of X G z_max, PySem.W.mg_none_of X G z_str, PySem.W.mg_none_of X G z_bool, PySem.W.mg_none_of X G z_tuple, PySem.W.mg_none_of X G z_set⟩
  have T : FmT w K mg C := ⟨mC, cl, ⟨cl, ca, cn, ct, cm⟩, (by unfold PySem.W.kitOne; rw [if_pos (by simp)]), (by
    intro n hn
    simp only [fnames, List.mem_cons, List.not_mem_nil, or_false] at hn
    rcases hn with rfl | rfl | rfl | rfl | rfl | rfl | rfl
    · exact n_own_word
    · exact n_own_parts
    · exact n_own_text
    · exact n_own_size
    · exact n_own_nested
    · exact n_own_depth
    · exact n_own_letters
    ), ⟨_, PySem.W.mg_of X G al, ⟨tal, rfl⟩⟩, ⟨pa, PySem.W.mg_of X G aS, fun o => by
      cases o with
      | an => exact ⟨es, ne, _, lS, kS, vA, ⟨ta, rfl⟩⟩
      | orr => exact ⟨es, ne, _, lS, kS, vO, ⟨to, rfl⟩⟩
      | im => exact ⟨es, ne, _, lS, kS, vI, ⟨ti, rfl⟩⟩⟩⟩
  have mR := PySem.W.mg_of X G aR
  have clR : Cls K R := ⟨Rpg, Rhd, Rpo, Rsa⟩
  have TR : RdT w K mg R := ⟨mR, clR, by
    intro n hn
    simp only [rn, List.mem_cons, List.not_mem_nil, or_false] at hn
    rcases hn with rfl | rfl
    · exact nsource
    · exact nat⟩
  have cr : ClX.CRead K C (.type "type") := ⟨crd, cga⟩
  have F_isLet := fun_mk (st := sIsLet) l_isLet c_isLet k_isLet
  have b_isLet := F_isLet.binds (ps := ["value"]) fun _ _ _ _ _ _ us hl => match us, hl with | [_], _ => rfl
  have F_letIn := fun_mk (st := sLetIn) l_letIn c_letIn k_letIn
  have b_letIn := F_letIn.binds (ps := ["texts"]) fun _ _ _ _ _ _ us hl => match us, hl with | [_], _ => rfl
  have F_isForm := fun_mk (st := sIsForm) l_isForm c_isForm k_isForm
  have b_isForm := F_isForm.binds (ps := ["word", "parts"]) fun _ _ _ _ _ _ us hl => match us, hl with | [_, _], _ => rfl
  have F_textIn := fun_mk (st := sTextIn) l_textIn c_textIn k_textIn
  have b_textIn := F_textIn.binds (ps := ["word", "parts"]) fun _ _ _ _ _ _ us hl => match us, hl with | [_, _], _ => rfl
  have F_cells := fun_mk (st := sCells) l_cells c_cells k_cells
  have b_cells := F_cells.binds (ps := ["_law_script"]) fun _ _ _ _ _ _ us hl => match us, hl with | [_], _ => rfl
  have F_draw := fun_mk (st := sDraw) l_draw c_draw k_draw
  have b_draw := F_draw.binds (ps := ["_law_bag", "_law_sides"]) fun _ _ _ _ _ _ us hl => match us, hl with | [_, _], _ => rfl
  have F_one := fun_mk (st := sOne) l_one c_one k_one
  have b_one := F_one.binds (ps := ["_law_bag", "_law_things"]) fun _ _ _ _ _ _ us hl => match us, hl with | [_, _], _ => rfl
  have F_same := fun_mk (st := sSame) l_same c_same k_same
  have b_same := F_same.binds (ps := ["_law_found", "_law_due"]) fun _ _ _ _ _ _ us hl => match us, hl with | [_, _], _ => rfl
  have F_signs := fun_mk (st := sSigns) l_signs c_signs k_signs
  have b_signs := F_signs.binds (ps := ["_law_bag", "_law_many"]) fun _ _ _ _ _ _ us hl => match us, hl with | [_, _], _ => rfl
  have F_leaf := fun_mk (st := sLeaf) l_leaf c_leaf k_leaf
  have b_leaf := F_leaf.binds (ps := ["_law_bag", "_law_signs_here"]) fun _ _ _ _ _ _ us hl => match us, hl with | [_, _], _ => rfl
  have F_form := fun_mk (st := sForm) l_form c_form k_form
  have b_form := F_form.binds (ps := ["_law_bag", "_law_signs_here", "_law_deep"]) fun _ _ _ _ _ _ us hl => match us, hl with | [_, _, _], _ => rfl
  have F_inner := fun_mk (st := sInner) l_inner c_inner k_inner
  have b_inner := F_inner.binds (ps := ["_law_mine"]) fun _ _ _ _ _ _ us hl => match us, hl with | [_], _ => rfl
  have F_made := fun_mk (st := sMade) l_made c_made k_made
  have b_made := F_made.binds (ps := ["_law_mine"]) fun _ _ _ _ _ _ us hl => match us, hl with | [_], _ => rfl
  have F_lsize := fun_mk (st := sSize) l_lsize c_lsize k_lsize
  have b_lsize := F_lsize.binds (ps := ["_law_mine"]) fun _ _ _ _ _ _ us hl => match us, hl with | [_], _ => rfl
  have F_lnested := fun_mk (st := sNested) l_lnested c_lnested k_lnested
  have b_lnested := F_lnested.binds (ps := ["_law_mine"]) fun _ _ _ _ _ _ us hl => match us, hl with | [_], _ => rfl
  have F_ltext := fun_mk (st := sText2) l_ltext c_ltext k_ltext
  have b_ltext := F_ltext.binds (ps := ["_law_mine"]) fun _ _ _ _ _ _ us hl => match us, hl with | [_], _ => rfl
  have F_need := fun_mk (st := sNeed) l_need c_need k_need
  have b_need := F_need.binds (ps := ["value"]) fun _ _ _ _ _ _ us hl => match us, hl with | [_], _ => rfl
  have F_readF := fun_mk (st := sReadF) l_readF c_readF k_readF
  have b_readF := F_readF.binds (ps := ["text"]) fun _ _ _ _ _ _ us hl => match us, hl with | [_], _ => rfl
  have F_law := fun_mk (st := sLaw) l_law c_law k_law
  have b_law := F_law.binds (ps := ["_law_script"]) fun _ _ _ _ _ _ us hl => match us, hl with | [_], _ => rfl
  have F_init := fun_mk (st := sInit) l_init c_init k_init
  have F_text := fun_mk (st := sText) l_text c_text k_text
  have b_text := F_text.binds (ps := ["self"]) fun _ _ _ _ _ _ us hl => match us, hl with | [_], _ => rfl
  have F_parts := fun_mk (st := sParts) l_parts c_parts k_parts
  have b_parts := F_parts.binds (ps := ["self"]) fun _ _ _ _ _ _ us hl => match us, hl with | [_], _ => rfl
  have F_neg := fun_mk (st := sNeg) l_neg c_neg k_neg
  have b_neg := F_neg.binds (ps := ["self"]) fun _ _ _ _ _ _ us hl => match us, hl with | [_], _ => rfl
  have F_eq := fun_mk (st := sEq) l_eq c_eq k_eq
  have b_eq := F_eq.binds (ps := ["self", "other"]) fun _ _ _ _ _ _ us hl => match us, hl with | [_, _], _ => rfl
  have F_and := fun_mk (st := sAnd) l_and c_and k_and
  have b_and := F_and.binds (ps := ["self", "other"]) fun _ _ _ _ _ _ us hl => match us, hl with | [_, _], _ => rfl
  have F_or := fun_mk (st := sOr) l_or c_or k_or
  have b_or := F_or.binds (ps := ["self", "other"]) fun _ _ _ _ _ _ us hl => match us, hl with | [_, _], _ => rfl
  have F_shr := fun_mk (st := sShr) l_shr c_shr k_shr
  have b_shr := F_shr.binds (ps := ["self", "other"]) fun _ _ _ _ _ _ us hl => match us, hl with | [_, _], _ => rfl
  have F_str := fun_mk (st := sStr) l_str c_str k_str
  have b_str := F_str.binds (ps := ["self"]) fun _ _ _ _ _ _ us hl => match us, hl with | [_], _ => rfl
  have F_repr := fun_mk (st := sRepr) l_repr c_repr k_repr
  have b_repr := F_repr.binds (ps := ["self"]) fun _ _ _ _ _ _ us hl => match us, hl with | [_], _ => rfl
  have F_rinit := fun_mk (st := sRInit) l_rinit c_rinit k_rinit
  have b_rinit := F_rinit.binds (ps := ["self", "text"]) fun _ _ _ _ _ _ us hl => match us, hl with | [_, _], _ => rfl
  have F_skip := fun_mk (st := sSkip) l_skip c_skip k_skip
  have b_skip := F_skip.binds (ps := ["self", "sign"]) fun _ _ _ _ _ _ us hl => match us, hl with | [_, _], _ => rfl
  have F_sign := fun_mk (st := sSign) l_sign c_sign k_sign
  have b_sign := F_sign.binds (ps := ["self"]) fun _ _ _ _ _ _ us hl => match us, hl with | [_], _ => rfl
  have F_rform := fun_mk (st := sRForm) l_rform c_rform k_rform
  have b_rform := F_rform.binds (ps := ["self", "room"]) fun _ _ _ _ _ _ us hl => match us, hl with | [_, _], _ => rfl
  have F_pair := fun_mk (st := sPair) l_pair c_pair k_pair
  have b_pair := F_pair.binds (ps := ["self", "room"]) fun _ _ _ _ _ _ us hl => match us, hl with | [_, _], _ => rfl
  have F_pword := fun_mk (st := s_word) l_pword c_pword k_pword
  have b_pword := F_pword.binds (ps := ["self"]) fun _ _ _ _ _ _ us hl => match us, hl with | [_], _ => rfl
  have F_pletters := fun_mk (st := s_letters) l_pletters c_pletters k_pletters
  have b_pletters := F_pletters.binds (ps := ["self"]) fun _ _ _ _ _ _ us hl => match us, hl with | [_], _ => rfl
  have F_psize := fun_mk (st := s_size) l_psize c_psize k_psize
  have b_psize := F_psize.binds (ps := ["self"]) fun _ _ _ _ _ _ us hl => match us, hl with | [_], _ => rfl
  have F_pnested := fun_mk (st := s_nested) l_pnested c_pnested k_pnested
  have b_pnested := F_pnested.binds (ps := ["self"]) fun _ _ _ _ _ _ us hl => match us, hl with | [_], _ => rfl
  have F_pdepth := fun_mk (st := s_depth) l_pdepth c_pdepth k_pdepth
  have b_pdepth := F_pdepth.binds (ps := ["self"]) fun _ _ _ _ _ _ us hl => match us, hl with | [_], _ => rfl
  have F_sletter := fun_mk (st := sLetter) l_sletter c_sletter k_sletter
  have b_sletter := F_sletter.binds (ps := ["name"]) fun _ _ _ _ _ _ us hl => match us, hl with | [_], _ => rfl
  have F_strue := fun_mk (st := sTrue) l_strue c_strue k_strue
  have b_strue := F_strue.binds (ps := []) fun _ _ _ _ _ _ us hl => match us, hl with | [], _ => rfl
  have F_sfalse := fun_mk (st := sFalse) l_sfalse c_sfalse k_sfalse
  have b_sfalse := F_sfalse.binds (ps := []) fun _ _ _ _ _ _ us hl => match us, hl with | [], _ => rfl
  refine ⟨PySem.W.fnOf "law" "law" (defArgs sLaw) (defBody sLaw) (defScope sLaw) .none kV_law dc_law pm_law an_law cd_law ct_law, fun s v => .of_eq rfl, fun base _ _ => ?_⟩
  have D_draw : DrawD l.prog w K mg base 3 := ok_draw F_draw (PySem.W.mg_of X G a_draw) b_draw B
  have D_one : OneD l.prog w K mg base 4 := ok_one F_one (PySem.W.mg_of X G a_one) b_one B D_draw
  have D_signs : SignsD l.prog w K mg base 5 := ok_signs F_signs (PySem.W.mg_of X G a_signs) b_signs B D_draw D_one
  have D_leaf : LeafD l.prog w K mg base 5 := ok_leaf F_leaf (PySem.W.mg_of X G a_leaf) b_leaf B D_draw D_one
  have D_inner : InnerD l.prog w K mg base 2 := ok_inner F_inner (PySem.W.mg_of X G a_inner) b_inner B
  have D_isLet : IsLetD l.prog w K mg base 2 := ok_isLet F_isLet (PySem.W.mg_of X G a_isLet) b_isLet B T
  have D_letIn : LetInD l.prog w K mg base 2 := ok_letIn F_letIn (PySem.W.mg_of X G a_letIn) b_letIn B T
  have D_isForm : IsFormD l.prog w K mg base 3 := ok_isForm F_isForm (PySem.W.mg_of X G a_isForm) b_isForm B T D_isLet
  have D_pword := ok_word (P := l.prog) (w := w) (base := base) F_pword ⟨C, p_pword, mC, cl, a_pword, g_pword, t_pword, r_pword, q_pword⟩ b_pword T
  have D_pletters := ok_letters (P := l.prog) (w := w) (base := base) F_pletters ⟨C, p_pletters, mC, cl, a_pletters, g_pletters, t_pletters, r_pletters, q_pletters⟩ b_pletters T
  have D_psize := ok_size (P := l.prog) (w := w) (base := base) F_psize ⟨C, p_psize, mC, cl, a_psize, g_psize, t_psize, r_psize, q_psize⟩ b_psize T
  have D_pnested := ok_nested (P := l.prog) (w := w) (base := base) F_pnested ⟨C, p_pnested, mC, cl, a_pnested, g_pnested, t_pnested, r_pnested, q_pnested⟩ b_pnested T
  have D_pdepth := ok_depth (P := l.prog) (w := w) (base := base) F_pdepth ⟨C, p_pdepth, mC, cl, a_pdepth, g_pdepth, t_pdepth, r_pdepth, q_pdepth⟩ b_pdepth T
  have D_text := ok_text (P := l.prog) (w := w) (base := base) F_text ⟨C, mC, cl, a_text, i_text, k_text⟩ b_text T
  have D_parts := ok_parts (P := l.prog) (w := w) (base := base) F_parts ⟨C, mC, cl, a_parts, i_parts, k_parts⟩ b_parts B T
  have D_textIn : TextInD l.prog w K mg base 4 := ok_textIn F_textIn (PySem.W.mg_of X G a_textIn) b_textIn B T (D_pword.up (by decide)) (D_text.up (by decide))
  have MK : MkF l.prog w K mg base 5 := ok_init F_init ⟨C, mC, mk, a_init, i_init, kc⟩ B T D_isForm D_textIn D_letIn D_pletters D_psize D_pnested D_pdepth
  have D_need : NeedD l.prog w K mg base 1 := ok_need F_need (PySem.W.mg_of X G a_need) b_need B T
  have sfq : ∀ C', mg "Formula" = some (.ref C') → PySem.W.selfFirst K C' = true := fun C' h => by
    rw [mC] at h
    cases h
    exact sf
  have D_letter : LetterD l.prog w K mg base 7 := ok_letter F_sletter ⟨C, _, mC, cr, p_sletter, a_sletter, r_sletter, q_sletter⟩ b_sletter D_isLet MK
  have D_tru : CstD l.prog w K mg base "true" true 7 := ok_true F_strue ⟨C, _, mC, cr, p_strue, a_strue, r_strue, q_strue⟩ b_strue MK
  have D_neg : NegD l.prog w K mg base 7 := ok_neg F_neg ⟨C, mC, a_neg, i_neg⟩ b_neg MK
  have D_or := ok_or (P := l.prog) (w := w) (base := base) F_or ⟨C, mC, a_or, i_or⟩ b_or MK D_need
  have D_shr := ok_shr (P := l.prog) (w := w) (base := base) F_shr ⟨C, mC, a_shr, i_shr⟩ b_shr MK D_need
  have RK : RdKit l.prog w K mg base := {
    skip := ok_skip F_skip ⟨R, mR, clR, a_skip, i_skip, k_skip⟩ b_skip B TR
    sign := ok_sign F_sign ⟨R, mR, clR, a_sign, i_sign, k_sign⟩ b_sign B TR
    isLet := D_isLet
    letter := D_letter
    tru := D_tru
    fal := ok_false F_sfalse ⟨C, _, mC, cr, p_sfalse, a_sfalse, r_sfalse, q_sfalse⟩ b_sfalse MK
    neg := D_neg
    and := ok_and F_and ⟨C, mC, a_and, i_and⟩ b_and MK D_need
    or := D_or
    shr := D_shr
    sf := sfq }
  have RA := all_read F_rform ⟨R, mR, clR, a_rform, i_rform, k_rform⟩ b_rform F_pair ⟨R, mR, clR, a_pair, i_pair, k_pair⟩ b_pair B TR RK
  have D_rinit : MkR l.prog w K mg base 1 := ok_rinit F_rinit ⟨R, mR, Rmk, a_rinit, i_rinit, Rkc⟩ b_rinit TR
  have D_read := ok_readF (P := l.prog) (w := w) (base := base) F_readF B TR D_rinit (RA 60).1 D_text ⟨_, _, mC, cr, most, ⟨tmost, rfl⟩⟩
  exact ok_law F_law {
    B := B
    repr := PySem.W.mg_none_of X G z_repr
    cells := ok_cells F_cells (PySem.W.mg_of X G a_cells) b_cells B
    draw := D_draw
    one := D_one
    signs := D_signs
    form := ok_form F_form (PySem.W.mg_of X G a_form) b_form B D_draw D_leaf
    made := ok_made F_made (PySem.W.mg_of X G a_made) b_made MK
    size := ok_lsize F_lsize (PySem.W.mg_of X G a_lsize) b_lsize B D_inner
    nested := ok_lnested F_lnested (PySem.W.mg_of X G a_lnested) b_lnested B D_inner
    text := ok_ltext F_ltext (PySem.W.mg_of X G a_ltext) b_ltext
    same := ok_same F_same (PySem.W.mg_of X G a_same) b_same B
    neg := D_neg
    or := D_or
    shr := D_shr
    sf := sfq
    eq := ok_eq F_eq ⟨C, mC, a_eq, i_eq⟩ b_eq B T
    notFirst := fun C' h => by
      rw [mC] at h
      cases h
      exact nf
    ne := fun C' h => by
      rw [mC] at h
      cases h
      exact ⟨nne, cm⟩
    letter := D_letter
    tru := D_tru
    str := ok_str F_str ⟨C, mC, a_str, i_str⟩ b_str B T
    rep := ok_repr F_repr ⟨C, mC, a_repr, i_repr⟩ b_repr T
    psize := D_psize
    ptext := D_text
    read := ⟨f_readF, (PySem.W.mg_of X G a_readF), k_readF, by simpa using D_read.raw (ds := []) (dvs := []) b_readF .nil⟩
    readK := ⟨f_readF, _, ["text"], (PySem.W.mg_of X G a_readF), k_readF, D_read, ⟨fun s us ws _ hl => match us, ws, hl with
      | [], [_], _ => .of_eq rfl
      | [_], [], _ => .of_eq rfl, fun r1 r2 => r1.append r2⟩⟩ }
theorem walkL {l : PySem.W.OpenLaw} {q : Program} {loose : List Str} {XP : (Str → Option Value) → Heap → Prop} {YP : World → Heap → Prop} {d : DefRec} {K : Params → PySem.W.Frag} (hn : l.most = some 63) (hdf : d.params.defaults = [])
    (hY : ∀ (w : World) (h : Heap), YP w h → (K w.params).In h)
    (F : ∀ (w : World) (mg : Str → Option Value) (fa : Addr) (h : Heap), (K w.params).In h → h.Ns mainGlobals mg → mg d.name = some (.ref fa) →
      ∃ fd : FuncData, (∀ (s : Shared) (u : Value), BindsTo s fd ⟨[u], []⟩ [("_law_script", u)]) ∧ ∀ base : Heap, (K w.params).In base → base.Ns mainGlobals mg → FnOk l.prog w (K w.params) mg base CX0 141 fa fd ["_law_script"] (fnSp (K w.params) mg LawPre (fun ns => [.scr ns]) (fun _ => []) (fun _ => .bl true) (fun _ => []))) :
    PySem.W.WalkO q loose XP YP l.row.toRowW d [] (fun f vs => PySem.call f vs) := by
  refine Att.attach_callB (n := 63) hn hdf fun w s₀ s₁ mg mb fa o pm cd doc a vs ns G Y ho hd hcd hmg hobj hints hlen hbits hg => ?_
  have KX := hY w _ Y
  obtain ⟨fd, hb, hF⟩ := F w mg fa _ KX G.T.g hmg
  refine law_call (k := 141) KX G.T.g G.T.b G.T.builtins G.T.nolimit hg hobj hints (Nat.le_trans hlen (by decide)) ⟨rfl, by decide, by decide⟩ hF hb (fun H hO hS => ?_) fun H e s' z => z
  refine ⟨fun _ => False, ns, hlen, by simp, .cons (by unfold R; exact ⟨a, rfl, hS.elim (fun z => .inl ⟨by simp, z⟩) .inr⟩) .nil, by simp, by simp, fun v H' _ _ _ r => by simpa [R] using r⟩
end Od

open PySem PySem.W PyProof.Rows
set_option maxRecDepth 100000 in
set_option maxHeartbeats 0 in
theorem PySem.Challenge.cw_oneroot_k06_texts_of_formulas_holds : PySem.Challenge.rw_oneroot_k06_texts_of_formulas.Holds := by
  w_on; o_law; k_head; (case hw => w_witness2)
  k_fill
  refine Od.walkL (l := PySem.Challenge.rw_oneroot_k06_texts_of_formulas) rfl rfl (fun w h Y => PySem.W.kIn_of Y) ?F
  case F =>
    intro w mg fa h KX G hmg
    refine' Od.all_mk KX G hmg ?aC ?a_isLet ?l_isLet ?c_isLet ?k_isLet ?a_letIn ?l_letIn ?c_letIn ?k_letIn ?a_isForm ?l_isForm ?c_isForm ?k_isForm ?a_textIn ?l_textIn ?c_textIn ?k_textIn ?a_cells ?l_cells ?c_cells ?k_cells ?a_draw ?l_draw ?c_draw ?k_draw ?a_one ?l_one ?c_one ?k_one ?a_same ?l_same ?c_same ?k_same ?a_signs ?l_signs ?c_signs ?k_signs ?a_leaf ?l_leaf ?c_leaf ?k_leaf ?a_form ?l_form ?c_form ?k_form ?a_inner ?l_inner ?c_inner ?k_inner ?a_made ?l_made ?c_made ?k_made ?a_lsize ?l_lsize ?c_lsize ?k_lsize ?a_lnested ?l_lnested ?c_lnested ?k_lnested ?a_ltext ?l_ltext ?c_ltext ?k_ltext ?a_need ?l_need ?c_need ?k_need ?a_readF ?l_readF ?c_readF ?k_readF ?a_law ?l_law ?c_law ?k_law ?a_init ?i_init ?l_init ?c_init ?k_init ?a_text ?i_text ?l_text ?c_text ?k_text ?a_parts ?i_parts ?l_parts ?c_parts ?k_parts ?a_neg ?i_neg ?l_neg ?c_neg ?k_neg ?a_eq ?i_eq ?l_eq ?c_eq ?k_eq ?a_and ?i_and ?l_and ?c_and ?k_and ?a_or ?i_or ?l_or ?c_or ?k_or ?a_shr ?i_shr ?l_shr ?c_shr ?k_shr ?a_str ?i_str ?l_str ?c_str ?k_str ?a_repr ?i_repr ?l_repr ?c_repr ?k_repr ?aR ?a_rinit ?i_rinit ?l_rinit ?c_rinit ?k_rinit ?a_skip ?i_skip ?l_skip ?c_skip ?k_skip ?a_sign ?i_sign ?l_sign ?c_sign ?k_sign ?a_rform ?i_rform ?l_rform ?c_rform ?k_rform ?a_pair ?i_pair ?l_pair ?c_pair ?k_pair ?a_pword ?g_pword ?t_pword ?q_pword ?l_pword ?c_pword ?k_pword ?a_pletters ?g_pletters ?t_pletters ?q_pletters ?l_pletters ?c_pletters ?k_pletters ?a_psize ?g_psize ?t_psize ?q_psize ?l_psize ?c_psize ?k_psize ?a_pnested ?g_pnested ?t_pnested ?q_pnested ?l_pnested ?c_pnested ?k_pnested ?a_pdepth ?g_pdepth ?t_pdepth ?q_pdepth ?l_pdepth ?c_pdepth ?k_pdepth ?crd ?cga ?a_sletter ?q_sletter ?l_sletter ?c_sletter ?k_sletter ?a_strue ?q_strue ?l_strue ?c_strue ?k_strue ?a_sfalse ?q_sfalse ?l_sfalse ?c_sfalse ?k_sfalse ?most ?pg ?hd ?po ?sa ?mk ?kc ?ca ?cn ?ct ?cm ?nf ?sf ?nne ?Rpg ?Rhd ?Rpo ?Rsa ?Rmk ?Rkc ?nsource ?nat ?n_own_word ?n_own_parts ?n_own_text ?n_own_size ?n_own_nested ?n_own_depth ?n_own_letters ?al ?aS ?lS ?kS ?vA ?vO ?vI ?z_len ?z_int ?z_list ?z_sorted ?z_range ?z_isinstance ?z_all ?z_any ?z_zip ?z_sum ?z_max ?z_str ?z_bool ?z_tuple ?z_set ?z_repr
    (case aC => k_is); (case a_isLet => k_is); (case l_isLet => k_is); (case c_isLet => k_is); (case k_isLet => k_is); (case a_letIn => k_is)
    (case l_letIn => k_is); (case c_letIn => k_is); (case k_letIn => k_is); (case a_isForm => k_is); (case l_isForm => k_is); (case c_isForm => k_is)
    (case k_isForm => k_is); (case a_textIn => k_is); (case l_textIn => k_is); (case c_textIn => k_is); (case k_textIn => k_is); (case a_cells => k_is)
    (case l_cells => k_is); (case c_cells => k_is); (case k_cells => k_is); (case a_draw => k_is); (case l_draw => k_is); (case c_draw => k_is)
    (case k_draw => k_is); (case a_one => k_is); (case l_one => k_is); (case c_one => k_is); (case k_one => k_is); (case a_same => k_is)
    (case l_same => k_is); (case c_same => k_is); (case k_same => k_is); (case a_signs => k_is); (case l_signs => k_is); (case c_signs => k_is)
    (case k_signs => k_is); (case a_leaf => k_is); (case l_leaf => k_is); (case c_leaf => k_is); (case k_leaf => k_is); (case a_form => k_is)
    (case l_form => k_is); (case c_form => k_is); (case k_form => k_is); (case a_inner => k_is); (case l_inner => k_is); (case c_inner => k_is)
    (case k_inner => k_is); (case a_made => k_is); (case l_made => k_is); (case c_made => k_is); (case k_made => k_is); (case a_lsize => k_is)
    (case l_lsize => k_is); (case c_lsize => k_is); (case k_lsize => k_is); (case a_lnested => k_is); (case l_lnested => k_is); (case c_lnested => k_is)
    (case k_lnested => k_is); (case a_ltext => k_is); (case l_ltext => k_is); (case c_ltext => k_is); (case k_ltext => k_is); (case a_need => k_is)
    (case l_need => k_is); (case c_need => k_is); (case k_need => k_is); (case a_readF => k_is); (case l_readF => k_is); (case c_readF => k_is)
    (case k_readF => k_is); (case a_law => k_is); (case l_law => k_is); (case c_law => k_is); (case k_law => k_is); (case a_init => k_is)
    (case i_init => k_is); (case l_init => k_is); (case c_init => k_is); (case k_init => k_is); (case a_text => k_is); (case i_text => k_is)
    (case l_text => k_is); (case c_text => k_is); (case k_text => k_is); (case a_parts => k_is); (case i_parts => k_is); (case l_parts => k_is)
    (case c_parts => k_is); (case k_parts => k_is); (case a_neg => k_is); (case i_neg => k_is); (case l_neg => k_is); (case c_neg => k_is)
    (case k_neg => k_is); (case a_eq => k_is); (case i_eq => k_is); (case l_eq => k_is); (case c_eq => k_is); (case k_eq => k_is)
    (case a_and => k_is); (case i_and => k_is); (case l_and => k_is); (case c_and => k_is); (case k_and => k_is); (case a_or => k_is)
    (case i_or => k_is); (case l_or => k_is); (case c_or => k_is); (case k_or => k_is); (case a_shr => k_is); (case i_shr => k_is)
    (case l_shr => k_is); (case c_shr => k_is); (case k_shr => k_is); (case a_str => k_is); (case i_str => k_is); (case l_str => k_is)
    (case c_str => k_is); (case k_str => k_is); (case a_repr => k_is); (case i_repr => k_is); (case l_repr => k_is); (case c_repr => k_is)
    (case k_repr => k_is); (case aR => k_is); (case a_rinit => k_is); (case i_rinit => k_is); (case l_rinit => k_is); (case c_rinit => k_is)
    (case k_rinit => k_is); (case a_skip => k_is); (case i_skip => k_is); (case l_skip => k_is); (case c_skip => k_is); (case k_skip => k_is)
    (case a_sign => k_is); (case i_sign => k_is); (case l_sign => k_is); (case c_sign => k_is); (case k_sign => k_is); (case a_rform => k_is)
    (case i_rform => k_is); (case l_rform => k_is); (case c_rform => k_is); (case k_rform => k_is); (case a_pair => k_is); (case i_pair => k_is)
    (case l_pair => k_is); (case c_pair => k_is); (case k_pair => k_is); (case a_pword => k_is); (case g_pword => k_is); (case t_pword => k_is)
    (case q_pword => k_is); (case l_pword => k_is); (case c_pword => k_is); (case k_pword => k_is); (case a_pletters => k_is); (case g_pletters => k_is)
    (case t_pletters => k_is); (case q_pletters => k_is); (case l_pletters => k_is); (case c_pletters => k_is); (case k_pletters => k_is); (case a_psize => k_is)
    (case g_psize => k_is); (case t_psize => k_is); (case q_psize => k_is); (case l_psize => k_is); (case c_psize => k_is); (case k_psize => k_is)
    (case a_pnested => k_is); (case g_pnested => k_is); (case t_pnested => k_is); (case q_pnested => k_is); (case l_pnested => k_is); (case c_pnested => k_is)
    (case k_pnested => k_is); (case a_pdepth => k_is); (case g_pdepth => k_is); (case t_pdepth => k_is); (case q_pdepth => k_is); (case l_pdepth => k_is)
    (case c_pdepth => k_is); (case k_pdepth => k_is); (case crd => k_is); (case cga => k_is); (case a_sletter => k_is); (case q_sletter => k_is)
    (case l_sletter => k_is); (case c_sletter => k_is); (case k_sletter => k_is); (case a_strue => k_is); (case q_strue => k_is); (case l_strue => k_is)
    (case c_strue => k_is); (case k_strue => k_is); (case a_sfalse => k_is); (case q_sfalse => k_is); (case l_sfalse => k_is); (case c_sfalse => k_is)
    (case k_sfalse => k_is); (case most => k_is); (case pg => k_is); (case hd => k_is); (case po => k_is); (case sa => k_is)
    (case mk => k_is); (case kc => k_is); (case ca => k_is); (case cn => k_is); (case ct => k_is); (case cm => k_is)
    (case nf => k_is); (case sf => k_is); (case nne => k_is); (case Rpg => k_is); (case Rhd => k_is); (case Rpo => k_is)
    (case Rsa => k_is); (case Rmk => k_is); (case Rkc => k_is); (case nsource => k_is); (case nat => k_is); (case n_own_word => k_is)
    (case n_own_parts => k_is); (case n_own_text => k_is); (case n_own_size => k_is); (case n_own_nested => k_is); (case n_own_depth => k_is); (case n_own_letters => k_is)
    (case al => k_is); (case aS => k_is); (case lS => k_is); (case kS => k_keys); (case vA => k_is); (case vO => k_is)
    (case vI => k_is); (case z_len => k_is); (case z_int => k_is); (case z_list => k_is); (case z_sorted => k_is); (case z_range => k_is)
    (case z_isinstance => k_is); (case z_all => k_is); (case z_any => k_is); (case z_zip => k_is); (case z_sum => k_is); (case z_max => k_is)
    (case z_str => k_is); (case z_bool => k_is); (case z_tuple => k_is); (case z_set => k_is); (case z_repr => k_is)

