import PyProof.Rows.All
import Wide.All
import OpenK.AllK
import Wide.FinOn
import HandS.ForMost
import HandS.ForExc
import HandS.Star
import HandS.Property
import HandS.IsInst
import HandS.Wide
import HandS.EndBits
import HandS.SortKw
import HandS.TupAny
import HandS.ClsMeth
import HandS.FStr
import HandS.RaiseMore
import HandS.Nested
import KE.KMinKey
import HandS.SlotsOwn
import KE.KOpsOwn
import HandS.Text
import KE.KCallOwn
import KE.KFmtOwn
import PyProof.InstEq
import HandS.StrMore
import HandS.Steps
import PySem.Challenge.RW_oneroot_k13_trees_joined
import HandS.Zip
import KE.KExcSuper
import HandS.ExcInit
import HandS.ExcField
import HandS.ExcSuper
import HandS.HotCalls
import KE.KTryMore
import HandS.Style
import KE.KUnpackStar
import HandS.EndOwn
set_option Elab.async false
set_option linter.all false
set_option maxRecDepth 100000
set_option maxHeartbeats 4000000
/-! Od1: pure data D, how values bear it, and what expressions give in such terms. -/
namespace Od
open PySem L2

/-- a lambda: its words, the cells that it captured, the ints that stand as defaults -/
structure LamF where
  qual : Str
  params : Arguments
  body : Expr
  scope : Scope
  cl : List (Str × Addr)
  dvs : List Int
/-- the object at f is that lambda -/
def LamO (f : Addr) (L : LamF) (dV : Value) (c' : Addr) : HO := .ext fun h => ∃ pm ctv : Value, h.get? f = some ({ cls := .type "function", data := .func { name := "<lambda>", qualname := L.qual, params := L.params, body := .expr L.body, scope := L.scope, globals := mainGlobals, closure := L.cl, defaults := dV, kwdefaults := .none, doc := .none, pyModule := pm, annotations := none, code := .ref c', closureTuple := ctv, builtins := builtinsNs } } : Obj)
/-- what a value stands for -/
inductive D where
  | lam (L : LamF)
  | non | bl (b : Bool) | int (i : Int) | str (s : Str) | ref (a : Addr) | ty (n : String)
  | lst (xs : List D) | tup (xs : List D) | obj (c : Str) (ns : List Str) (ds : List D) | dic (ks : List Key) (ds : List D) | scr (ns : List Int) | exc (a dd : Addr) (ns : List Str) (ds : List D)

/-- what a thing that may change holds -/
inductive MC where
  | tab (q : Str)
  | lst (xs : List D) | obj (c : Str) (ns : List Str) (ds : List D) | dic (ks : List Key) (ds : List D)

/-- a tuple of the written part -/
def KT (K : PySem.W.Frag) (a : Addr) (xs : List V) : Prop :=
  ∃ (o : Obj) (its : Array Value) (n : Nat), K.lookup a = some o ∧ o.cls = .type "tuple" ∧ o.data = .seq its n ∧ its.size ≤ sizeLine ∧ Vals xs its.toList

/-- a list of the written part -/
def KL (K : PySem.W.Frag) (a : Addr) (xs : List V) : Prop :=
  ∃ (o : Obj) (its : Array Value) (n : Nat), K.lookup a = some o ∧ o.cls = .type "list" ∧ o.dict = none ∧ o.data = .seq its n ∧ its.size ≤ sizeLine ∧ Vals xs its.toList

section
variable (K : PySem.W.Frag) (mg : Str → Option Value) (M : Addr → Prop) (H : Hp)
/-- a lambda stands there -/
def Lams (v : V) (L : LamF) : Prop := ∃ (f c' : Addr) (dV : Value), v = .ref f ∧ ¬ M f ∧ H f = some (LamO f L dV c') ∧ ¬ M c' ∧ H c' = some (LamX.CodeO c' L.qual) ∧ ((L.dvs = [] ∧ dV = .none) ∨ ∃ t, dV = .ref t ∧ ¬ M t ∧ H t = some (.tup (L.dvs.map V.int)))
mutual
def R : V → D → Prop
  | v, .lam L => Lams M H v L
  | v, .non => v = .non
  | v, .bl b => v = .bl b
  | v, .int i => v = .int i
  | v, .str s => v = .str s
  | v, .ref a => v = .ref a
  | v, .ty n => v = .ty n
  | v, .lst ds => ∃ a xs, v = .ref a ∧ ¬ M a ∧ H a = some (.lst xs) ∧ Rs xs ds
  | v, .tup ds => ∃ a xs, v = .ref a ∧ ((¬ M a ∧ H a = some (.tup xs)) ∨ KT K a xs) ∧ Rs xs ds
  | v, .obj c ns ds => ∃ a C dx xs, v = .ref a ∧ ¬ M a ∧ mg c = some (.ref C) ∧ H a = some (.ins C dx (ns.zip xs)) ∧ ns.length = xs.length ∧ Rs xs ds
  | v, .dic ks ds => ∃ a xs, v = .ref a ∧ ¬ M a ∧ Rd H a (.dK (ks.zip xs)) ∧ ks.length = xs.length ∧ Rs xs ds
  | v, .exc a dd ns ds => ∃ xs, v = .ref a ∧ ¬ M dd ∧ H dd = some (.xd (ns.zip xs)) ∧ ns.length = xs.length ∧ Rs xs ds
  | v, .scr ns => ∃ a, v = .ref a ∧ ((¬ M a ∧ Rd H a (.lst (ns.map V.int))) ∨ KL K a (ns.map V.int))
def Rs : List V → List D → Prop
  | [], [] => True
  | x :: xs, d :: ds => R x d ∧ Rs xs ds
  | [], _ :: _ => False
  | _ :: _, [] => False
end
def Cell (a : Addr) : MC → Prop
  | .tab q => ∃ ps : Array Value, H a = some (.tbl ps) ∧ TriplesOk ps.toList ∧ ∀ (pos : Pos) (cv : Value), codeAmong pos ps.toList = some cv → ∃ c, cv = .ref c ∧ ¬ M c ∧ H c = some (LamX.CodeO c q)
  | .lst ds => ∃ xs, H a = some (.lst xs) ∧ Rs K mg M H xs ds
  | .obj c ns ds => ∃ C dx xs, mg c = some (.ref C) ∧ H a = some (.ins C dx (ns.zip xs)) ∧ ns.length = xs.length ∧ Rs K mg M H xs ds
  | .dic ks ds => ∃ xs, H a = some (.dK (ks.zip xs)) ∧ ks.length = xs.length ∧ Rs K mg M H xs ds
end

abbrev Cs := List (Addr × MC)
abbrev DE := List (Option D)
def Ext (A : List Addr) (H H' : Hp) : Prop := ∀ a o, H a = some o → a ∉ A → H' a = some o
theorem Ext.refl (A : List Addr) (H : Hp) : Ext A H H := fun _ _ h _ => h
theorem Ext.trans {A : List Addr} {H H1 H2 : Hp} (x : Ext A H H1) (y : Ext A H1 H2) : Ext A H H2 := fun a o h n => y a o (x a o h n) n
theorem Ext.mono {A B : List Addr} {H H' : Hp} (x : Ext A H H') (h : ∀ a ∈ A, a ∈ B) : Ext B H H' := fun a o e n => x a o e fun z => n (h a z)
theorem Ext.new {A : List Addr} {H : Hp} {p : Addr} {o : HO} (h : H p = none) : Ext A H (upd H p o) := fun a u e _ => by
  rw [upd_ne (ne_of_none e h)]; exact e

section
variable {K : PySem.W.Frag} {mg : Str → Option Value} {M M' : Addr → Prop} {H H' : Hp}
theorem rd_ext {a : Addr} {u : HO} (k : ∀ o, H a = some o → H' a = some o) (h : Rd H a u) : Rd H' a u := by
  rcases h with h | ⟨o, h⟩
  · exact .inl (k _ h)
  · exact .inr ⟨o, k _ h⟩
theorem Lams.ext (k : ∀ a o, ¬ M a → H a = some o → H' a = some o) (m : ∀ a, ¬ M a → H a ≠ none → ¬ M' a) {v : V} {L : LamF} (h : Lams M H v L) : Lams M' H' v L := by
  obtain ⟨f, c', dV, e, n1, h1, n2, h2, h3⟩ := h
  refine ⟨f, c', dV, e, m f n1 (by rw [h1]; simp), k f _ n1 h1, m c' n2 (by rw [h2]; simp), k c' _ n2 h2, h3.imp_right fun ⟨t, e1, n3, q⟩ => ⟨t, e1, m t n3 (by rw [q]; simp), k t _ n3 q⟩⟩
mutual
/-- carried to a heap that keeps what is not marked, with marks on nothing that it leans on -/
theorem R.ext (k : ∀ a o, ¬ M a → H a = some o → H' a = some o) (m : ∀ a, ¬ M a → H a ≠ none → ¬ M' a) : ∀ (d : D) {v : V}, R K mg M H v d → R K mg M' H' v d
  | .lam _, _, h => by
    unfold R at h ⊢
    exact h.ext k m
  | .non, _, h => h
  | .bl _, _, h => h
  | .int _, _, h => h
  | .str _, _, h => h
  | .ref _, _, h => h
  | .ty _, _, h => h
  | .lst ds, v, h => by
    unfold R at h ⊢
    obtain ⟨a, xs, e, n, q, r⟩ := h
    exact ⟨a, xs, e, m a n (by rw [q]; simp), k a _ n q, Rs.ext k m ds r⟩
  | .tup ds, v, h => by
    unfold R at h ⊢
    obtain ⟨a, xs, e, q, r⟩ := h
    refine ⟨a, xs, e, ?_, Rs.ext k m ds r⟩
    rcases q with ⟨n, q⟩ | q
    · exact .inl ⟨m a n (by rw [q]; simp), k a _ n q⟩
    · exact .inr q
  | .obj c ns ds, v, h => by
    unfold R at h ⊢
    obtain ⟨a, C, dx, xs, e, n, g, q, l, r⟩ := h
    exact ⟨a, C, dx, xs, e, m a n (by rw [q]; simp), g, k a _ n q, l, Rs.ext k m ds r⟩
  | .dic ks ds, v, h => by
    unfold R at h ⊢
    obtain ⟨a, xs, e, n, q, l, r⟩ := h
    exact ⟨a, xs, e, m a n (by rcases q with q | ⟨o, q⟩ <;> rw [q] <;> simp), rd_ext (fun o => k a o n) q, l, Rs.ext k m ds r⟩
  | .exc a dd ns ds, v, h => by
    unfold R at h ⊢
    obtain ⟨xs, e, n, q, l, r⟩ := h
    exact ⟨xs, e, m dd n (by rw [q]; simp), k dd _ n q, l, Rs.ext k m ds r⟩
  | .scr ns, v, h => by
    unfold R at h ⊢
    obtain ⟨a, e, q⟩ := h
    refine ⟨a, e, ?_⟩
    rcases q with ⟨n, q⟩ | q
    · refine .inl ⟨m a n ?_, rd_ext (fun o => k a o n) q⟩
      rcases q with q | ⟨o, q⟩ <;> rw [q] <;> simp
    · exact .inr q
theorem Rs.ext (k : ∀ a o, ¬ M a → H a = some o → H' a = some o) (m : ∀ a, ¬ M a → H a ≠ none → ¬ M' a) : ∀ (ds : List D) {xs : List V}, Rs K mg M H xs ds → Rs K mg M' H' xs ds
  | [], [], _ => by unfold Rs; trivial
  | [], _ :: _, h => by unfold Rs at h; exact h.elim
  | _ :: _, [], h => by unfold Rs at h; exact h.elim
  | d :: ds, x :: xs, h => by
    unfold Rs at h ⊢
    exact ⟨R.ext k m d h.1, Rs.ext k m ds h.2⟩
end
theorem Rs.nil : Rs K mg M H [] [] := by unfold Rs; trivial
theorem Rs.cons {x : V} {d : D} {xs : List V} {ds : List D} (h : R K mg M H x d) (t : Rs K mg M H xs ds) : Rs K mg M H (x :: xs) (d :: ds) := by unfold Rs; exact ⟨h, t⟩
theorem Rs.length : ∀ {xs : List V} {ds : List D}, Rs K mg M H xs ds → xs.length = ds.length
  | [], [], _ => rfl
  | _ :: _, _ :: _, h => by
    unfold Rs at h
    simp [Rs.length h.2]
  | [], _ :: _, h => by unfold Rs at h; exact h.elim
  | _ :: _, [], h => by unfold Rs at h; exact h.elim
theorem Rs.get : ∀ {xs : List V} {ds : List D} {i : Nat} {d : D}, Rs K mg M H xs ds → ds[i]? = some d → ∃ x, xs[i]? = some x ∧ R K mg M H x d
  | [], [], i, d, _, e => by simp at e
  | x :: xs, d' :: ds, 0, d, h, e => by
    unfold Rs at h
    simp at e; subst e
    exact ⟨x, rfl, h.1⟩
  | x :: xs, d' :: ds, i + 1, d, h, e => by
    unfold Rs at h
    obtain ⟨y, e1, r⟩ := Rs.get (i := i) (d := d) h.2 (by simpa using e)
    exact ⟨y, by simpa using e1, r⟩
  | [], _ :: _, _, _, h, _ => by unfold Rs at h; exact h.elim
  | _ :: _, [], _, _, h, _ => by unfold Rs at h; exact h.elim
theorem Rs.getV : ∀ {xs : List V} {ds : List D} {i : Nat} {x : V}, Rs K mg M H xs ds → xs[i]? = some x → ∃ d, ds[i]? = some d ∧ R K mg M H x d
  | [], [], i, x, _, e => by simp at e
  | y :: xs, d' :: ds, 0, x, h, e => by
    unfold Rs at h
    simp at e; subst e
    exact ⟨d', rfl, h.1⟩
  | y :: xs, d' :: ds, i + 1, x, h, e => by
    unfold Rs at h
    obtain ⟨y, e1, r⟩ := Rs.getV (i := i) (x := x) h.2 (by simpa using e)
    exact ⟨y, by simpa using e1, r⟩
  | [], _ :: _, _, _, h, _ => by unfold Rs at h; exact h.elim
  | _ :: _, [], _, _, h, _ => by unfold Rs at h; exact h.elim
theorem Rs.append : ∀ {xs ys : List V} {ds es : List D}, Rs K mg M H xs ds → Rs K mg M H ys es → Rs K mg M H (xs ++ ys) (ds ++ es)
  | [], _, [], _, _, t => t
  | _ :: _, _, _ :: _, _, h, t => by
    unfold Rs at h
    exact Rs.cons h.1 (Rs.append h.2 t)
  | [], _, _ :: _, _, h, _ => by unfold Rs at h; exact h.elim
  | _ :: _, _, [], _, h, _ => by unfold Rs at h; exact h.elim
theorem Rs.drop : ∀ {xs : List V} {ds : List D} (n : Nat), Rs K mg M H xs ds → Rs K mg M H (xs.drop n) (ds.drop n)
  | _, _, 0, h => by simpa using h
  | [], [], n + 1, h => by simpa using h
  | _ :: _, _ :: _, n + 1, h => by
    unfold Rs at h
    simpa using Rs.drop n h.2
  | [], _ :: _, _ + 1, h => by unfold Rs at h; exact h.elim
  | _ :: _, [], _ + 1, h => by unfold Rs at h; exact h.elim
theorem Rs.take : ∀ {xs : List V} {ds : List D} (n : Nat), Rs K mg M H xs ds → Rs K mg M H (xs.take n) (ds.take n)
  | _, _, 0, h => by simpa using Rs.nil
  | [], [], n + 1, h => by simpa using h
  | _ :: _, _ :: _, n + 1, h => by
    unfold Rs at h
    simpa using Rs.cons h.1 (Rs.take n h.2)
  | [], _ :: _, _ + 1, h => by unfold Rs at h; exact h.elim
  | _ :: _, [], _ + 1, h => by unfold Rs at h; exact h.elim
theorem Rs.set : ∀ {xs : List V} {ds : List D} {x : V} {d : D} (n : Nat), Rs K mg M H xs ds → R K mg M H x d → Rs K mg M H (xs.set n x) (ds.set n d)
  | [], [], _, _, _, h, _ => by simpa using h
  | _ :: _, _ :: _, _, _, 0, h, r => by
    unfold Rs at h
    exact Rs.cons r h.2
  | _ :: _, _ :: _, _, _, n + 1, h, r => by
    unfold Rs at h
    exact Rs.cons h.1 (Rs.set n h.2 r)
  | [], _ :: _, _, _, _, h, _ => by unfold Rs at h; exact h.elim
  | _ :: _, [], _, _, _, h, _ => by unfold Rs at h; exact h.elim
theorem rs1 {vs : List V} {d : D} (h : Rs K mg M H vs [d]) : ∃ v, vs = [v] ∧ R K mg M H v d := by
  cases vs with
  | nil => unfold Rs at h; exact h.elim
  | cons v vs =>
    unfold Rs at h
    obtain ⟨h1, h2⟩ := h
    cases vs with
    | nil => exact ⟨v, rfl, h1⟩
    | cons u us => unfold Rs at h2; exact h2.elim
theorem rs2 {vs : List V} {d d2 : D} (h : Rs K mg M H vs [d, d2]) : ∃ v u, vs = [v, u] ∧ R K mg M H v d ∧ R K mg M H u d2 := by
  cases vs with
  | nil => unfold Rs at h; exact h.elim
  | cons v vs =>
    unfold Rs at h
    obtain ⟨h1, h2⟩ := h
    obtain ⟨u, rfl, h3⟩ := rs1 h2
    exact ⟨v, u, rfl, h1, h3⟩
theorem Rs.ints : ∀ {xs : List V} {ns : List Int}, Rs K mg M H xs (ns.map D.int) ↔ xs = ns.map V.int
  | [], [] => by simp [Rs]
  | [], _ :: _ => by simp [Rs]
  | _ :: _, [] => by simp [Rs]
  | x :: xs, n :: ns => by
    have ih := Rs.ints (xs := xs) (ns := ns)
    simp [Rs, R, ih]
theorem Rs.strs : ∀ {xs : List V} {ns : List Str}, Rs K mg M H xs (ns.map D.str) ↔ xs = ns.map V.str
  | [], [] => by simp [Rs]
  | [], _ :: _ => by simp [Rs]
  | _ :: _, [] => by simp [Rs]
  | x :: xs, n :: ns => by
    have ih := Rs.strs (xs := xs) (ns := ns)
    simp [Rs, R, ih]
theorem Rs.bls : ∀ {xs : List V} {ns : List Bool}, Rs K mg M H xs (ns.map D.bl) ↔ xs = ns.map V.bl
  | [], [] => by simp [Rs]
  | [], _ :: _ => by simp [Rs]
  | _ :: _, [] => by simp [Rs]
  | x :: xs, n :: ns => by
    have ih := Rs.bls (xs := xs) (ns := ns)
    simp [Rs, R, ih]
theorem Cell.ext (k : ∀ a o, ¬ M a → H a = some o → H' a = some o) (m : ∀ a, ¬ M a → H a ≠ none → ¬ M' a) {a : Addr} (ka : ∀ o, H a = some o → H' a = some o) : ∀ {c : MC}, Cell K mg M H a c → Cell K mg M' H' a c
  | .tab _, ⟨ps, q, t, r⟩ => ⟨ps, ka _ q, t, fun pos cv hc => by
      obtain ⟨c, e1, n, h1⟩ := r pos cv hc
      exact ⟨c, e1, m c n (by rw [h1]; simp), k c _ n h1⟩⟩
  | .lst _, ⟨xs, q, r⟩ => ⟨xs, ka _ q, Rs.ext k m _ r⟩
  | .obj _ _ _, ⟨C, dx, xs, g, q, l, r⟩ => ⟨C, dx, xs, g, ka _ q, l, Rs.ext k m _ r⟩
  | .dic _ _, ⟨xs, q, l, r⟩ => ⟨xs, ka _ q, l, Rs.ext k m _ r⟩
theorem Cell.ne {a : Addr} : ∀ {c : MC}, Cell K mg M H a c → H a ≠ none
  | .tab _, ⟨ps, q, _⟩ => by rw [q]; simp
  | .lst _, ⟨xs, q, r⟩ => by rw [q]; simp
  | .obj _ _ _, ⟨C, dx, xs, g, q, l, r⟩ => by rw [q]; simp
  | .dic _ _, ⟨xs, q, l, r⟩ => by rw [q]; simp
end

/-- where one stands: the names' data, the things that may change -/
structure Sit (K : PySem.W.Frag) (mg : Str → Option Value) (M : Addr → Prop) (σ : L2.St) (H : Hp) (e : DE) (cs : Cs) : Prop where
  mt : ∀ a, M a → H a ≠ none
  len : σ.length = e.length
  env : ∀ (i : Nat) (d : D), e[i]? = some (some d) → ∃ v : V, σ[i]? = some (some v) ∧ R K mg M H v d
  cel : ∀ p ∈ cs, M p.1 ∧ Cell K mg M H p.1 p.2
  nd : (cs.map (·.1)).Nodup
abbrev dom (cs : Cs) : List Addr := cs.map (·.1)

section
variable {K : PySem.W.Frag} {mg : Str → Option Value} {M : Addr → Prop} {H H' : Hp} {σ : L2.St} {e : DE} {cs cs' : Cs}
theorem Sit.keeps (S : Sit K mg M σ H e cs) (x : Ext (dom cs) H H') : ∀ a o, ¬ M a → H a = some o → H' a = some o := fun a o n h => x a o h fun z => by
  obtain ⟨p, hp, rfl⟩ := List.mem_map.mp z
  exact n (S.cel p hp).1
theorem Sit.r (S : Sit K mg M σ H e cs) (x : Ext (dom cs) H H') {v : V} {d : D} (r : R K mg M H v d) : R K mg M H' v d := R.ext (S.keeps x) (fun _ n _ => n) d r
theorem Sit.rs (S : Sit K mg M σ H e cs) (x : Ext (dom cs) H H') {v : List V} {d : List D} (r : Rs K mg M H v d) : Rs K mg M H' v d := Rs.ext (S.keeps x) (fun _ n _ => n) d r
/-- nothing that may change has changed -/
theorem Sit.ex (S : Sit K mg M σ H e cs) (x : Ext [] H H') : Sit K mg M σ H' e cs where
  mt := fun a m z => by
    cases q : H a with
    | none => exact S.mt a m q
    | some o => rw [x a o q (by simp)] at z; cases z
  len := S.len
  env := fun i d q => by
    obtain ⟨v, e1, r⟩ := S.env i d q
    exact ⟨v, e1, R.ext (fun a o _ h => x a o h (by simp)) (fun _ n _ => n) d r⟩
  cel := fun p hp => ⟨(S.cel p hp).1, (S.cel p hp).2.ext (fun a o _ h => x a o h (by simp)) (fun _ n _ => n) fun o h => x _ o h (by simp)⟩
  nd := S.nd
/-- the things that may change have become cs' -/
theorem Sit.step (S : Sit K mg M σ H e cs) (hd : dom cs' = dom cs) (x : Ext (dom cs) H H') (mt : ∀ a, M a → H' a ≠ none) (hc : ∀ p ∈ cs', M p.1 ∧ Cell K mg M H' p.1 p.2) : Sit K mg M σ H' e cs' where
  mt := mt
  len := S.len
  env := fun i d q => by
    obtain ⟨v, e1, r⟩ := S.env i d q
    exact ⟨v, e1, S.r x r⟩
  cel := hc
  nd := by rw [show cs'.map (·.1) = cs.map (·.1) from hd]; exact S.nd
theorem Sit.set (S : Sit K mg M σ H e cs) {v : V} {d : D} (i : Nat) (r : R K mg M H v d) : Sit K mg M (σ.set i (some v)) H (e.set i (some d)) cs where
  mt := S.mt
  len := by simp [S.len]
  env := fun j d' q => by
    by_cases hj : i = j
    · subst hj
      by_cases hi : i < e.length
      · rw [List.getElem?_set_self hi] at q
        cases q
        exact ⟨v, by rw [List.getElem?_set_self (by rw [S.len]; exact hi)], r⟩
      · rw [List.getElem?_eq_none (by simpa using hi)] at q; cases q
    · rw [List.getElem?_set_ne hj] at q
      obtain ⟨v', e1, r'⟩ := S.env j d' q
      exact ⟨v', by rw [List.getElem?_set_ne hj]; exact e1, r'⟩
  cel := S.cel
  nd := S.nd
/-- a slot forgotten -/
theorem Sit.wipe1 (S : Sit K mg M σ H e cs) (i : Nat) : Sit K mg M (σ.set i none) H (e.set i none) cs where
  mt := S.mt
  len := by simp [S.len]
  env := fun j d' q => by
    by_cases hj : i = j
    · subst hj
      by_cases hi : i < e.length
      · rw [List.getElem?_set_self hi] at q; cases q
      · rw [List.getElem?_eq_none (by simpa using hi)] at q; cases q
    · rw [List.getElem?_set_ne hj] at q
      obtain ⟨v', e1, r'⟩ := S.env j d' q
      exact ⟨v', by rw [List.getElem?_set_ne hj]; exact e1, r'⟩
  cel := S.cel
  nd := S.nd
def wipeD (e : DE) : List Nat → DE
  | [] => e
  | v :: vs => (wipeD e vs).set v none
theorem Sit.wipe (S : Sit K mg M σ H e cs) : ∀ vs : List Nat, Sit K mg M (L2.wipe σ vs) H (wipeD e vs) cs
  | [] => S
  | v :: vs => by
    unfold L2.wipe wipeD
    exact (Sit.wipe S vs).wipe1 v
/-- a new thing, marked -/
theorem Sit.mark (S : Sit K mg M σ H e cs) {p : Addr} {o : HO} (hp : H p = none) : Sit K mg (fun a => M a ∨ a = p) σ (upd H p o) e cs where
  mt := fun a m => by
    by_cases h : a = p
    · subst h; rw [upd_same]; simp
    · rw [upd_ne h]; exact S.mt a (m.resolve_right h)
  len := S.len
  env := fun i d q => by
    obtain ⟨v, e1, r⟩ := S.env i d q
    exact ⟨v, e1, R.ext (fun a u _ h => by rw [upd_ne (ne_of_none h hp)]; exact h) (fun a n h z => z.elim n fun z => h (z ▸ hp)) d r⟩
  cel := fun q hq => by
    obtain ⟨m, c⟩ := S.cel q hq
    refine ⟨.inl m, c.ext (fun a u _ h => by rw [upd_ne (ne_of_none h hp)]; exact h) (fun a n h z => z.elim n fun z => h (z ▸ hp)) fun u h => by rw [upd_ne (ne_of_none h hp)]; exact h⟩
  nd := S.nd
end
end Od

set_option Elab.async false
set_option linter.all false
set_option maxRecDepth 100000
set_option maxHeartbeats 4000000
namespace Od
open PySem L2

/-! ### the greatest readings -/
def wE (X : Cx) (ex : Expr) : TE := fun σ H Q => ∀ (pins : List (Addr × Obj)) (s : Shared), Inv X pins σ H s → wpAny (model X.prog X.w) X.A (eval ex X.env) (EP X pins σ Q) X.xe s
def wT (X : Cx) (ex : Expr) : TT := fun σ H Q => ∀ (pins : List (Addr × Obj)) (s : Shared), Inv X pins σ H s → wpAny (model X.prog X.w) X.A (isTrue ex X.env (eval ex X.env)) (TP X pins σ Q) X.xe s
def wW (X : Cx) (ex : Expr) : TT := fun σ H Q => ∀ (whole : Sem Value) (pins : List (Addr × Obj)) (s : Shared), Inv X pins σ H s → wpAny (model X.prog X.w) X.A (isTrue ex X.env whole) (TP X pins σ Q) X.xe s
def wA (X : Cx) (es : List Expr) : TA := fun σ H Q => ∀ (pos : Pos) (pins : List (Addr × Obj)) (s : Shared), Inv X pins σ H s → wpAny (model X.prog X.w) X.A (spliced (backTo pos (starEach es X.env))) (AP X pins σ Q) X.xe s
/-- (a structure, so that nothing unfolds it) -/
structure WSs (X : Cx) (st : List Stmt) (D : Ends) (σ : L2.St) (H : Hp) : Prop where
  h : ∀ (pins : List (Addr × Obj)) (s : Shared), Inv X pins σ H s → wpAny (model X.prog X.w) X.A (execs st X.env) (SP X pins D) X.xe s
def wSs (X : Cx) (st : List Stmt) : TS := fun D σ H => WSs X st D σ H
section
variable {X : Cx} {ex : Expr} {es : List Expr} {st : List Stmt} {σ : L2.St} {H : Hp}
theorem pe_w : PE X ex (wE X ex) := ⟨fun pins s σ H Q I h => h pins s I⟩
theorem pt_w : PT X ex (wT X ex) := ⟨fun pins s σ H Q I h => h pins s I⟩
theorem pw_w : PW X ex (wW X ex) := ⟨fun wh pins s σ H Q I h => h wh pins s I⟩
theorem pa_w : PA X es (wA X es) := ⟨fun pos pins s σ H Q I h => h pos pins s I⟩
theorem pss_w : PSs X st (wSs X st) := ⟨fun pins s σ H Q I h => h.h pins s I⟩
theorem we_of {t : TE} (h : PE X ex t) {Q : VK} (q : t σ H Q) : wE X ex σ H Q := fun pins s I => h.run pins s σ H Q I q
theorem wt_of {t : TT} (h : PT X ex t) {Q : Bool → Hp → Prop} (q : t σ H Q) : wT X ex σ H Q := fun pins s I => h.run pins s σ H Q I q
theorem ww_of {t : TT} (h : PW X ex t) {Q : Bool → Hp → Prop} (q : t σ H Q) : wW X ex σ H Q := fun wh pins s I => h.run wh pins s σ H Q I q
theorem wa_of {t : TA} (h : PA X es t) {Q : List V → Hp → Prop} (q : t σ H Q) : wA X es σ H Q := fun pos pins s I => h.run pos pins s σ H Q I q
theorem wss_of {t : TS} (h : PSs X st t) {D : Ends} (q : t D σ H) : wSs X st D σ H := ⟨fun pins s I => h.run pins s σ H D I q⟩
theorem wt_ww {Q : Bool → Hp → Prop} (q : wW X ex σ H Q) : wT X ex σ H Q := fun pins s I => q _ pins s I
end

/-! ### what an expression gives -/
structure EE (X : Cx) (M : Addr → Prop) (e : DE) (cs : Cs) (ex : Expr) (d : D) (cs' : Cs) : Prop where
  dm : dom cs' = dom cs
  k : ∀ (σ : L2.St) (H : Hp) (Q : VK), Sit X.K X.mg M σ H e cs → (∀ v H', Sit X.K X.mg M σ H' e cs' → Ext (dom cs) H H' → R X.K X.mg M H' v d → Q v H') → wE X ex σ H Q
structure ET (X : Cx) (M : Addr → Prop) (e : DE) (cs : Cs) (ex : Expr) (b : Bool) (cs' : Cs) : Prop where
  dm : dom cs' = dom cs
  k : ∀ (σ : L2.St) (H : Hp) (Q : Bool → Hp → Prop), Sit X.K X.mg M σ H e cs → (∀ H', Sit X.K X.mg M σ H' e cs' → Ext (dom cs) H H' → Q b H') → wT X ex σ H Q
structure EW (X : Cx) (M : Addr → Prop) (e : DE) (cs : Cs) (ex : Expr) (b : Bool) (cs' : Cs) : Prop where
  dm : dom cs' = dom cs
  k : ∀ (σ : L2.St) (H : Hp) (Q : Bool → Hp → Prop), Sit X.K X.mg M σ H e cs → (∀ H', Sit X.K X.mg M σ H' e cs' → Ext (dom cs) H H' → Q b H') → wW X ex σ H Q
structure EA (X : Cx) (M : Addr → Prop) (e : DE) (cs : Cs) (es : List Expr) (ds : List D) (cs' : Cs) : Prop where
  dm : dom cs' = dom cs
  k : ∀ (σ : L2.St) (H : Hp) (Q : List V → Hp → Prop), Sit X.K X.mg M σ H e cs → (∀ vs H', Sit X.K X.mg M σ H' e cs' → Ext (dom cs) H H' → Rs X.K X.mg M H' vs ds → Q vs H') → wA X es σ H Q

/-- what an operation on values gives, all that stands kept -/
abbrev Gives (X : Cx) (M : Addr → Prop) (H : Hp) (d : D) (Q : VK) : Prop := ∀ v H', Ext [] H H' → R X.K X.mg M H' v d → Q v H'
def BinD (X : Cx) (op : Operator) (x y z : D) : Prop := ∃ r, OpR X (binaryOp op) r ∧ ∀ (M : Addr → Prop) (H : Hp) (v u : V) (Q : VK), (∀ a, M a → H a ≠ none) → R X.K X.mg M H v x → R X.K X.mg M H u y → Gives X M H z Q → r v u H Q
def CmpD (X : Cx) (op : CmpOp) (x y : D) (b : Bool) : Prop := ∃ r, OpR X (compareOp op) r ∧ ∀ (M : Addr → Prop) (H : Hp) (v u : V) (Q : VK), (∀ a, M a → H a ≠ none) → R X.K X.mg M H v x → R X.K X.mg M H u y → Gives X M H (.bl b) Q → r v u H Q
def IxD (X : Cx) (x y z : D) : Prop := ∃ r, IxR X r ∧ ∀ (M : Addr → Prop) (H : Hp) (v u : V) (Q : VK), (∀ a, M a → H a ≠ none) → R X.K X.mg M H v x → R X.K X.mg M H u y → Gives X M H z Q → r v u H Q
def SlD (X : Cx) (x : D) (lo hi : Option Int) (z : D) : Prop := ∃ r, SlR X r ∧ ∀ (M : Addr → Prop) (H : Hp) (v : V) (Q : VK), (∀ a, M a → H a ≠ none) → R X.K X.mg M H v x → Gives X M H z Q → r v lo hi H Q
def CalD (X : Cx) (f : Value) (xs : List D) (z : D) : Prop := ∃ r, CallR X f r ∧ ∀ (M : Addr → Prop) (H : Hp) (vs : List V) (Q : VK), (∀ a, M a → H a ≠ none) → Rs X.K X.mg M H vs xs → Gives X M H z Q → r vs H Q
def UnD (X : Cx) (op : UnaryOp) (x z : D) : Prop := ∃ r, UnR X (unaryOp op) r ∧ ∀ (M : Addr → Prop) (H : Hp) (v : V) (Q : VK), (∀ a, M a → H a ≠ none) → R X.K X.mg M H v x → Gives X M H z Q → r v H Q
/-- a method of a text -/
def StrD (X : Cx) (id : String) (x : Str) (xs : List D) (z : D) : Prop := ∃ r, MtR X id r ∧ ∀ (M : Addr → Prop) (H : Hp) (vs : List V) (Q : VK), (∀ a, M a → H a ≠ none) → Rs X.K X.mg M H vs xs → Gives X M H z Q → r (.str x) vs H Q

section
variable {X : Cx} {M : Addr → Prop} {e : DE} {cs cs1 cs2 cs3 : Cs} {pos p pos' apos : Pos} {a b c ex : Expr} {es : List Expr} {d x y z : D} {ds : List D} {n : Str}

/-- pure continuation: nothing that may change has changed -/
theorem fin {σ : L2.St} {H H1 : Hp} {Q : VK} (S : Sit X.K X.mg M σ H e cs1) (xt : Ext (dom cs) H1 H) (k : ∀ v H', Sit X.K X.mg M σ H' e cs1 → Ext (dom cs) H1 H' → R X.K X.mg M H' v d → Q v H') : Gives X M H d Q := fun v H' x r => k v H' (S.ex x) (xt.trans (x.mono (by simp))) r

theorem e_name (i : Nat) (hd : e[i]? = some (some d)) (hN : X.N[i]? = some n := by rfl) (hv : Vis X.env.scope n := by first | exact Or.inl rfl | exact Or.inr (Or.inl rfl) | exact Or.inr (Or.inr rfl))
    (h1 : (n == ("__debug__" : Str)) = false := by decide) (h2 : (n == ("__classdict__" : Str)) = false := by decide) : EE X M e cs (.Name n pos) d cs where
  dm := rfl
  k := fun σ H Q S k => by
    obtain ⟨v, hs, r⟩ := S.env i d hd
    exact we_of (pe_var hN hv h1 h2) ⟨v, hs, k v H S (Ext.refl _ _) r⟩
theorem e_int {i : Int} {j} : EE X M e cs (.Constant (.int i) j pos) (.int i) cs := ⟨rfl, fun σ H Q S k => we_of pe_int (k _ H S (Ext.refl _ _) (by simp [R]))⟩
theorem e_bl {b : Bool} {j} : EE X M e cs (.Constant (.bool b) j pos) (.bl b) cs := ⟨rfl, fun σ H Q S k => we_of pe_bl (k _ H S (Ext.refl _ _) (by simp [R]))⟩
theorem e_non {j} : EE X M e cs (.Constant .none j pos) .non cs := ⟨rfl, fun σ H Q S k => we_of pe_non (k _ H S (Ext.refl _ _) (by simp [R]))⟩
theorem e_str {s : Str} {j} : EE X M e cs (.Constant (.str s) j pos) (.str s) cs := ⟨rfl, fun σ H Q S k => we_of pe_str (k _ H S (Ext.refl _ _) (by simp [R]))⟩
/-- a name of the module: a text, an int -/
theorem e_gstr {s : Str} {u : Value} (hm : X.mg n = some u) (hr : RelV (.str s) u) (hg : Gl X n := by rfl) (hd : (n == ("__debug__" : Str)) = false := by decide) : EE X M e cs (.Name n pos) (.str s) cs :=
  ⟨rfl, fun σ H Q S k => we_of (pe_glob hg hm hr hd) (k _ H S (Ext.refl _ _) (by simp [R]))⟩
theorem e_gint {s : Int} {u : Value} (hm : X.mg n = some u) (hr : RelV (.int s) u) (hg : Gl X n := by rfl) (hd : (n == ("__debug__" : Str)) = false := by decide) : EE X M e cs (.Name n pos) (.int s) cs :=
  ⟨rfl, fun σ H Q S k => we_of (pe_glob hg hm hr hd) (k _ H S (Ext.refl _ _) (by simp [R]))⟩
/-- a class of one's own as a value -/
theorem e_gref {C : Addr} (hm : X.mg n = some (.ref C)) (hg : Gl X n := by rfl) (hd : (n == ("__debug__" : Str)) = false := by decide) : EE X M e cs (.Name n pos) (.ref C) cs :=
  ⟨rfl, fun σ H Q S k => we_of (pe_glob (v := .ref C) hg hm rfl hd) (k _ H S (Ext.refl _ _) (by simp [R]))⟩
/-- a built-in type as a value -/
theorem e_gty {t : String} (hm : X.mg n = none) (hv : bootBuiltins n = some (.type t) := by decide +kernel) (hg : Gl X n := by rfl) (hn : n ≠ "__name__" := by decide) (hd : (n == ("__debug__" : Str)) = false := by decide) : EE X M e cs (.Name n pos) (.ty t) cs :=
  ⟨rfl, fun σ H Q S k => we_of (pe_bltn (v := .ty t) hg hm hv rfl hn hd) (k _ H S (Ext.refl _ _) (by simp [R]))⟩

theorem e_bin {op : Operator} (ha : EE X M e cs a x cs1) (hb : EE X M e cs1 b y cs2) (c : BinD X op x y z) : EE X M e cs (.BinOp a op b pos) z cs2 where
  dm := hb.dm.trans ha.dm
  k := fun σ H Q S k => by
    obtain ⟨r, ho, hk⟩ := c
    refine we_of (pe_op ho pe_w pe_w) (ha.k σ H _ S fun v H1 S1 x1 r1 => hb.k σ H1 _ S1 fun u H2 S2 x2 r2 => hk M H2 v u Q S2.mt (S1.r x2 r1) r2 (fin S2 (x1.trans ?_) k))
    rw [← ha.dm]; exact x2
theorem e_un {op : UnaryOp} (ha : EE X M e cs a x cs1) (c : UnD X op x z) : EE X M e cs (.UnaryOp op a pos) z cs1 where
  dm := ha.dm
  k := fun σ H Q S k => by
    obtain ⟨r, ho, hk⟩ := c
    exact we_of (pe_un ho pe_w) (ha.k σ H _ S fun v H1 S1 x1 r1 => hk M H1 v Q S1.mt r1 (fin S1 x1 k))
theorem e_cmp {op : CmpOp} {k0 : Bool} (ha : EE X M e cs a x cs1) (hb : EE X M e cs1 b y cs2) (c : CmpD X op x y k0) (hm : behindInMarks op b = false := by first | exact nomark _ | rfl) : EE X M e cs (.Compare a [op] [b] pos) (.bl k0) cs2 where
  dm := hb.dm.trans ha.dm
  k := fun σ H Q S k => by
    obtain ⟨r, ho, hk⟩ := c
    refine we_of (pe_cmpR ho pe_w pe_w hm) (ha.k σ H _ S fun v H1 S1 x1 r1 => hb.k σ H1 _ S1 fun u H2 S2 x2 r2 => hk M H2 v u Q S2.mt (S1.r x2 r1) r2 (fin S2 (x1.trans ?_) k))
    rw [← ha.dm]; exact x2
theorem t_cmp {op : CmpOp} {k0 : Bool} (ha : EE X M e cs a x cs1) (hb : EE X M e cs1 b y cs2) (c : CmpD X op x y k0) (hm : behindInMarks op b = false := by first | exact nomark _ | rfl) : ET X M e cs (.Compare a [op] [b] pos) k0 cs2 where
  dm := hb.dm.trans ha.dm
  k := fun σ H Q S k => by
    obtain ⟨r, ho, hk⟩ := c
    refine wt_of (pt_cmpR ho pe_w pe_w hm) (ha.k σ H _ S fun v H1 S1 x1 r1 => hb.k σ H1 _ S1 fun u H2 S2 x2 r2 => hk M H2 v u _ S2.mt (S1.r x2 r1) r2 fun w H3 x3 r3 => ⟨k0, by simpa [R] using r3, k H3 (S2.ex x3) (x1.trans ?_)⟩)
    rw [← ha.dm]; exact x2.trans (x3.mono (by simp))
/-- a < b < c, three plain values -/
theorem e_chain {op op' : CmpOp} {k0 k1 : Bool} (ha : EE X M e cs a x cs1) (hb : EE X M e cs1 b y cs2) (hc : EE X M e cs2 c z cs2) (q : CmpD X op x y k0) (q' : CmpD X op' y z k1) (hm : lastMarks [op, op'] [b, c] = false := by rfl) : EE X M e cs (.Compare a [op, op'] [b, c] pos) (.bl (k0 && k1)) cs2 where
  dm := hb.dm.trans ha.dm
  k := fun σ H Q S k => by
    obtain ⟨r, ho, hk⟩ := q
    obtain ⟨r', ho', hk'⟩ := q'
    refine we_of (pe_chain ho ho' pe_w pe_w pe_w hm) (ha.k σ H _ S fun v H1 S1 x1 r1 => hb.k σ H1 _ S1 fun u H2 S2 x2 r2 => hk M H2 v u _ S2.mt (S1.r x2 r1) r2 fun w H3 x3 r3 => ⟨k0, by simpa [R] using r3, ?_⟩)
    have x13 : Ext (dom cs) H H3 := (x1.trans (by rw [← ha.dm]; exact x2)).trans (x3.mono (by simp))
    cases k0 with
    | true =>
      rw [if_pos rfl]
      refine hc.k σ H3 _ (S2.ex x3) fun w' H4 S4 x4 r4 => hk' M H4 u w' _ S4.mt ?_ r4 (fin S4 (x13.trans ?_) ?_)
      · exact S4.r (Ext.refl _ _) ((S2.ex x3).r x4 ((S2.ex x3).r (Ext.refl _ _) (R.ext (fun a o _ h => x3 a o h (by simp)) (fun _ n _ => n) _ r2)))
      · rw [← hb.dm.trans ha.dm]; exact x4
      · simpa using k
    | false =>
      rw [if_neg (by simp)]
      exact k _ H3 (S2.ex x3) x13 (by simp [R])
theorem t_chain {op op' : CmpOp} {k0 k1 : Bool} (ha : EE X M e cs a x cs1) (hb : EE X M e cs1 b y cs2) (hc : EE X M e cs2 c z cs2) (q : CmpD X op x y k0) (q' : CmpD X op' y z k1) (hm : lastMarks [op, op'] [b, c] = false := by rfl) : ET X M e cs (.Compare a [op, op'] [b, c] pos) (k0 && k1) cs2 where
  dm := hb.dm.trans ha.dm
  k := fun σ H Q S k => by
    obtain ⟨r, ho, hk⟩ := q
    obtain ⟨r', ho', hk'⟩ := q'
    refine wt_of (pt_chain ho ho' pe_w pe_w pe_w hm) (ha.k σ H _ S fun v H1 S1 x1 r1 => hb.k σ H1 _ S1 fun u H2 S2 x2 r2 => hk M H2 v u _ S2.mt (S1.r x2 r1) r2 fun w H3 x3 r3 => ⟨k0, by simpa [R] using r3, ?_⟩)
    have x13 : Ext (dom cs) H H3 := (x1.trans (by rw [← ha.dm]; exact x2)).trans (x3.mono (by simp))
    cases k0 with
    | true =>
      rw [if_pos rfl]
      refine hc.k σ H3 _ (S2.ex x3) fun w' H4 S4 x4 r4 => hk' M H4 u w' _ S4.mt ?_ r4 fun w5 H5 x5 r5 => ⟨k1, by simpa [R] using r5, ?_⟩
      · exact S4.r (Ext.refl _ _) ((S2.ex x3).r x4 ((S2.ex x3).r (Ext.refl _ _) (R.ext (fun a o _ h => x3 a o h (by simp)) (fun _ n _ => n) _ r2)))
      · have := k H5 (S4.ex x5) (x13.trans ((by rw [← hb.dm.trans ha.dm]; exact x4 : Ext (dom cs) H3 H4).trans (x5.mono (by simp))))
        simpa using this
    | false =>
      rw [if_neg (by simp)]
      exact ⟨false, rfl, k H3 (S2.ex x3) x13⟩

def isNonD : D → Bool
  | .non => true
  | _ => false
theorem R.isNon {K : PySem.W.Frag} {mg : Str → Option Value} {H : Hp} : ∀ {x : D} {v : V}, R K mg M H v x → decide (v = V.non) = isNonD x
  | .non, v, h => by simp [R] at h; simp [h, isNonD]
  | .bl _, v, h => by simp [R] at h; simp [h, isNonD]
  | .int _, v, h => by simp [R] at h; simp [h, isNonD]
  | .str _, v, h => by simp [R] at h; simp [h, isNonD]
  | .ref _, v, h => by simp [R] at h; simp [h, isNonD]
  | .ty _, v, h => by simp [R] at h; simp [h, isNonD]
  | .lst _, v, h => by unfold R at h; obtain ⟨a, xs, rfl, _⟩ := h; simp [isNonD]
  | .tup _, v, h => by unfold R at h; obtain ⟨a, xs, rfl, _⟩ := h; simp [isNonD]
  | .obj _ _ _, v, h => by unfold R at h; obtain ⟨a, C, dx, xs, rfl, _⟩ := h; simp [isNonD]
  | .dic _ _, v, h => by unfold R at h; obtain ⟨a, xs, rfl, _⟩ := h; simp [isNonD]
  | .scr _, v, h => by unfold R at h; obtain ⟨a, rfl, _⟩ := h; simp [isNonD]
  | .lam _, v, h => by unfold R at h; obtain ⟨f, c', dV, rfl, _⟩ := h; simp [isNonD]
  | .exc _ _ _ _, v, h => by unfold R at h; obtain ⟨xs, rfl, _⟩ := h; simp [isNonD]
theorem e_isN {j} (ha : EE X M e cs a x cs1) : EE X M e cs (.Compare a [.Is] [.Constant .none j pos'] pos) (.bl (isNonD x)) cs1 where
  dm := ha.dm
  k := fun σ H Q S k => we_of (pe_cmp (pc_isN pe_w)) (ha.k σ H _ S fun v H1 S1 x1 r1 => k _ H1 S1 x1 (by simp [R, r1.isNon]))
theorem e_notN {j} (ha : EE X M e cs a x cs1) : EE X M e cs (.Compare a [.IsNot] [.Constant .none j pos'] pos) (.bl (!isNonD x)) cs1 where
  dm := ha.dm
  k := fun σ H Q S k => we_of (pe_cmp (pc_notN pe_w)) (ha.k σ H _ S fun v H1 S1 x1 r1 => k _ H1 S1 x1 (by simp [R, r1.isNon]))
theorem t_isN {j} (ha : EE X M e cs a x cs1) : ET X M e cs (.Compare a [.Is] [.Constant .none j pos'] pos) (isNonD x) cs1 where
  dm := ha.dm
  k := fun σ H Q S k => wt_of (pt_cmp (pc_isN pe_w)) (ha.k σ H _ S fun v H1 S1 x1 r1 => ⟨_, rfl, by rw [r1.isNon]; exact k H1 S1 x1⟩)
theorem t_notN {j} (ha : EE X M e cs a x cs1) : ET X M e cs (.Compare a [.IsNot] [.Constant .none j pos'] pos) (!isNonD x) cs1 where
  dm := ha.dm
  k := fun σ H Q S k => wt_of (pt_cmp (pc_notN pe_w)) (ha.k σ H _ S fun v H1 S1 x1 r1 => ⟨_, rfl, by rw [r1.isNon]; exact k H1 S1 x1⟩)

/-! ### and, or, not, if -/
theorem t_val {k0 : Bool} (ha : EE X M e cs a (.bl k0) cs1) (he : ∀ whole, isTrue a X.env whole = (do let v ← whole; standAt a.pos; holding [v] (truthy v)) := by intro _; rfl) : ET X M e cs a k0 cs1 where
  dm := ha.dm
  k := fun σ H Q S k => wt_of (pt_val pe_w he) (ha.k σ H _ S fun v H1 S1 x1 r1 => ⟨k0, by simpa [R] using r1, k H1 S1 x1⟩)
theorem t_not {k0 : Bool} (ha : ET X M e cs a k0 cs1) : ET X M e cs (.UnaryOp .Not a pos) (!k0) cs1 where
  dm := ha.dm
  k := fun σ H Q S k => wt_of (pt_not pt_w) (ha.k σ H _ S k)
theorem t_and1 {k0 : Bool} (ha : ET X M e cs a k0 cs1) : EW X M e cs (.BoolOp .And [a] pos) k0 cs1 where
  dm := ha.dm
  k := fun σ H Q S k => ww_of (pw_and1 pt_w) (ha.k σ H _ S k)
theorem t_or1 {k0 : Bool} (ha : ET X M e cs a k0 cs1) : EW X M e cs (.BoolOp .Or [a] pos) k0 cs1 where
  dm := ha.dm
  k := fun σ H Q S k => ww_of (pw_or1 pt_w) (ha.k σ H _ S k)
theorem t_andS {p0 q0 : Bool} (ha : ET X M e cs a p0 cs1) (hd : dom cs2 = dom cs1) (hb : p0 = true → EW X M e cs1 (.BoolOp .And (b :: es) pos) q0 cs2) (hc : p0 = false → cs2 = cs1) : EW X M e cs (.BoolOp .And (a :: b :: es) pos) (p0 && q0) cs2 where
  dm := hd.trans ha.dm
  k := fun σ H Q S k => ww_of (pw_and pt_w pw_w) (ha.k σ H _ S fun H1 S1 x1 => by
    cases p0 with
    | true =>
      rw [if_pos rfl]
      refine (hb rfl).k σ H1 _ S1 fun H2 S2 x2 => ?_
      rw [ha.dm] at x2
      simpa using k H2 S2 (x1.trans x2)
    | false =>
      rw [if_neg (by simp)]
      obtain rfl := hc rfl
      simpa using k H1 S1 x1)
theorem t_and {p0 q0 : Bool} (ha : ET X M e cs a p0 cs1) (hb : p0 = true → EW X M e cs1 (.BoolOp .And (b :: es) pos) q0 cs1) : EW X M e cs (.BoolOp .And (a :: b :: es) pos) (p0 && q0) cs1 := t_andS ha rfl hb fun _ => rfl
theorem t_orS {p0 q0 : Bool} (ha : ET X M e cs a p0 cs1) (hd : dom cs2 = dom cs1) (hb : p0 = false → EW X M e cs1 (.BoolOp .Or (b :: es) pos) q0 cs2) (hc : p0 = true → cs2 = cs1) : EW X M e cs (.BoolOp .Or (a :: b :: es) pos) (p0 || q0) cs2 where
  dm := hd.trans ha.dm
  k := fun σ H Q S k => ww_of (pw_or pt_w pw_w) (ha.k σ H _ S fun H1 S1 x1 => by
    cases p0 with
    | false =>
      rw [if_neg (by simp)]
      refine (hb rfl).k σ H1 _ S1 fun H2 S2 x2 => ?_
      rw [ha.dm] at x2
      simpa using k H2 S2 (x1.trans x2)
    | true =>
      rw [if_pos rfl]
      obtain rfl := hc rfl
      simpa using k H1 S1 x1)
theorem t_or {p0 q0 : Bool} (ha : ET X M e cs a p0 cs1) (hb : p0 = false → EW X M e cs1 (.BoolOp .Or (b :: es) pos) q0 cs1) : EW X M e cs (.BoolOp .Or (a :: b :: es) pos) (p0 || q0) cs1 := t_orS ha rfl hb fun _ => rfl
theorem t_ew {k0 : Bool} (h : EW X M e cs a k0 cs1) : ET X M e cs a k0 cs1 := ⟨h.dm, fun σ H Q S k => wt_ww (h.k σ H Q S k)⟩
/-- as values -/
theorem e_one {op : BoolOp} (ha : EE X M e cs a x cs1) : EE X M e cs (.BoolOp op [a] pos) x cs1 where
  dm := ha.dm
  k := fun σ H Q S k => we_of (pe_one pe_w) (ha.k σ H _ S k)
theorem e_andS {p0 q0 : Bool} (ha : EE X M e cs a (.bl p0) cs1) (hd : dom cs2 = dom cs1) (hb : p0 = true → EE X M e cs1 (.BoolOp .And (b :: es) pos) (.bl q0) cs2) (hc : p0 = false → cs2 = cs1) : EE X M e cs (.BoolOp .And (a :: b :: es) pos) (.bl (p0 && q0)) cs2 where
  dm := hd.trans ha.dm
  k := fun σ H Q S k => we_of (pe_and pe_w pe_w) (ha.k σ H _ S fun v H1 S1 x1 r1 => ⟨p0, by simpa [R] using r1, by
    cases p0 with
    | true =>
      rw [if_pos rfl]
      refine (hb rfl).k σ H1 _ S1 fun w H2 S2 x2 r2 => ?_
      rw [ha.dm] at x2
      exact k w H2 S2 (x1.trans x2) (by simpa using r2)
    | false =>
      rw [if_neg (by simp)]
      obtain rfl := hc rfl
      exact k _ H1 S1 x1 (by simp [R])⟩)
theorem e_and {p0 q0 : Bool} (ha : EE X M e cs a (.bl p0) cs1) (hb : p0 = true → EE X M e cs1 (.BoolOp .And (b :: es) pos) (.bl q0) cs1) : EE X M e cs (.BoolOp .And (a :: b :: es) pos) (.bl (p0 && q0)) cs1 := e_andS ha rfl hb fun _ => rfl
theorem e_orS {p0 q0 : Bool} (ha : EE X M e cs a (.bl p0) cs1) (hd : dom cs2 = dom cs1) (hb : p0 = false → EE X M e cs1 (.BoolOp .Or (b :: es) pos) (.bl q0) cs2) (hc : p0 = true → cs2 = cs1) : EE X M e cs (.BoolOp .Or (a :: b :: es) pos) (.bl (p0 || q0)) cs2 where
  dm := hd.trans ha.dm
  k := fun σ H Q S k => we_of (pe_or pe_w pe_w) (ha.k σ H _ S fun v H1 S1 x1 r1 => ⟨p0, by simpa [R] using r1, by
    cases p0 with
    | false =>
      rw [if_neg (by simp)]
      refine (hb rfl).k σ H1 _ S1 fun w H2 S2 x2 r2 => ?_
      rw [ha.dm] at x2
      exact k w H2 S2 (x1.trans x2) (by simpa using r2)
    | true =>
      rw [if_pos rfl]
      obtain rfl := hc rfl
      exact k _ H1 S1 x1 (by simp [R])⟩)
theorem e_or {p0 q0 : Bool} (ha : EE X M e cs a (.bl p0) cs1) (hb : p0 = false → EE X M e cs1 (.BoolOp .Or (b :: es) pos) (.bl q0) cs1) : EE X M e cs (.BoolOp .Or (a :: b :: es) pos) (.bl (p0 || q0)) cs1 := e_orS ha rfl hb fun _ => rfl
theorem e_not {p0 : Bool} (ha : EE X M e cs a (.bl p0) cs1) : EE X M e cs (.UnaryOp .Not a pos) (.bl (!p0)) cs1 where
  dm := ha.dm
  k := fun σ H Q S k => we_of (pe_not pe_w) (ha.k σ H _ S fun v H1 S1 x1 r1 => ⟨p0, by simpa [R] using r1, k _ H1 S1 x1 (by simp [R])⟩)
/-- a if c else b -/
theorem e_if {p0 : Bool} (hc : ET X M e cs c p0 cs1) (hd : dom cs2 = dom cs1) (ha : p0 = true → EE X M e cs1 a x cs2) (hb : p0 = false → EE X M e cs1 b x cs2) : EE X M e cs (.IfExp c a b pos) x cs2 where
  dm := hd.trans hc.dm
  k := fun σ H Q S k => we_of (pe_ifExp pt_w pe_w pe_w) (hc.k σ H _ S fun H1 S1 x1 => by
    cases p0 with
    | true =>
      rw [if_pos rfl]
      refine (ha rfl).k σ H1 _ S1 fun w H2 S2 x2 r2 => ?_
      rw [hc.dm] at x2
      exact k w H2 S2 (x1.trans x2) r2
    | false =>
      rw [if_neg (by simp)]
      refine (hb rfl).k σ H1 _ S1 fun w H2 S2 x2 r2 => ?_
      rw [hc.dm] at x2
      exact k w H2 S2 (x1.trans x2) r2)
/-- both sides told apart -/
theorem e_ite {p0 : Bool} (hc : ET X M e cs c p0 cs1) (ha : p0 = true → EE X M e cs1 a x cs1) (hb : p0 = false → EE X M e cs1 b y cs1) : EE X M e cs (.IfExp c a b pos) (if p0 then x else y) cs1 :=
  e_if hc rfl (fun h => by rw [if_pos h]; exact ha h) fun h => by rw [if_neg (by simp [h])]; exact hb h
/-- another name for what comes out -/
theorem EE.eq (h : EE X M e cs a x cs1) (q : x = y) : EE X M e cs a y cs1 := q ▸ h
theorem ET.eq {p0 q0 : Bool} (h : ET X M e cs a p0 cs1) (q : p0 = q0) : ET X M e cs a q0 cs1 := q ▸ h

/-! ### argument lists, displays -/
theorem a_nil : EA X M e cs [] [] cs := ⟨rfl, fun σ H Q S k => wa_of pa_nil (k _ H S (Ext.refl _ _) Rs.nil)⟩
theorem a_cons (ha : EE X M e cs a x cs1) (hr : EA X M e cs1 es ds cs2) (hs : starEach (a :: es) X.env = (false, eval a X.env) :: starEach es X.env := by rfl) : EA X M e cs (a :: es) (x :: ds) cs2 where
  dm := hr.dm.trans ha.dm
  k := fun σ H Q S k => wa_of (pa_cons pe_w pa_w hs) (ha.k σ H _ S fun v H1 S1 x1 r1 => hr.k σ H1 _ S1 fun vs H2 S2 x2 r2 => k _ H2 S2 (x1.trans (by rw [← ha.dm]; exact x2)) (.cons (S1.r x2 r1) r2))
theorem new_m {H : Hp} {p : Addr} (S : ∀ a, M a → H a ≠ none) (hp : H p = none) : ¬ M p := fun m => S p m hp
theorem r_newl {H : Hp} {p : Addr} {vs : List V} (S : ∀ a, M a → H a ≠ none) (hp : H p = none) (r : Rs X.K X.mg M H vs ds) : R X.K X.mg M (upd H p (.lst vs)) (.ref p) (.lst ds) := by
  unfold R
  exact ⟨p, vs, rfl, new_m S hp, upd_same, Rs.ext (fun a o _ h => by rw [upd_ne (ne_of_none h hp)]; exact h) (fun _ n _ => n) _ r⟩
theorem r_newt {H : Hp} {p : Addr} {vs : List V} (S : ∀ a, M a → H a ≠ none) (hp : H p = none) (r : Rs X.K X.mg M H vs ds) : R X.K X.mg M (upd H p (.tup vs)) (.ref p) (.tup ds) := by
  unfold R
  exact ⟨p, vs, rfl, .inl ⟨new_m S hp, upd_same⟩, Rs.ext (fun a o _ h => by rw [upd_ne (ne_of_none h hp)]; exact h) (fun _ n _ => n) _ r⟩
theorem e_tup {x1} (ha : EA X M e cs es ds cs1) (hl : ds.length ≤ 100000 := by first | decide | simp) : EE X M e cs (.Tuple es x1 pos) (.tup ds) cs1 where
  dm := ha.dm
  k := fun σ H Q S k => we_of (pe_tup pa_w) (ha.k σ H _ S fun vs H1 S1 x1 r1 => ⟨by rw [r1.length]; exact Nat.le_trans hl (by decide), fun p hp => fin S1 x1 k _ _ (Ext.new hp) (r_newt S1.mt hp r1)⟩)
theorem e_lst (ha : EA X M e cs es ds cs1) (hl : ds.length ≤ 100000 := by first | decide | simp) : EE X M e cs (.List es pos) (.lst ds) cs1 where
  dm := ha.dm
  k := fun σ H Q S k => we_of (pe_lst pa_w) (ha.k σ H _ S fun vs H1 S1 x1 r1 => ⟨by rw [r1.length]; exact Nat.le_trans hl (by decide), fun p hp => fin S1 x1 k _ _ (Ext.new hp) (r_newl S1.mt hp r1)⟩)

/-! ### subscripts, slices -/
theorem e_ix (ha : EE X M e cs a x cs1) (hb : EE X M e cs1 b y cs2) (q : IxD X x y z) (hs : PlainIx b := by intro _ _; rfl) : EE X M e cs (.Subscript a b pos) z cs2 where
  dm := hb.dm.trans ha.dm
  k := fun σ H Q S k => by
    obtain ⟨r, ho, hk⟩ := q
    refine we_of (pe_ix ho pe_w pe_w hs) (ha.k σ H _ S fun v H1 S1 x1 r1 => hb.k σ H1 _ S1 fun u H2 S2 x2 r2 => hk M H2 v u Q S2.mt (S1.r x2 r1) r2 (fin S2 (x1.trans ?_) k))
    rw [← ha.dm]; exact x2
/-- an end of a slice -/
structure EO (X : Cx) (M : Addr → Prop) (e : DE) (cs : Cs) (o : Option Expr) (i : Option Int) (cs' : Cs) : Prop where
  dm : dom cs' = dom cs
  k : ∃ t, PO X o t ∧ ∀ (σ : L2.St) (H : Hp) (Q : Option Int → Hp → Prop), Sit X.K X.mg M σ H e cs → (∀ H', Sit X.K X.mg M σ H' e cs' → Ext (dom cs) H H' → Q i H') → t σ H Q
theorem o_none : EO X M e cs none none cs := ⟨rfl, _, po_none, fun σ H Q S k => k H S (Ext.refl _ _)⟩
theorem o_some {i : Int} (ha : EE X M e cs a (.int i) cs1) : EO X M e cs (some a) (some i) cs1 := ⟨ha.dm, _, po_some pe_w, fun σ H Q S k => ha.k σ H _ S fun v H1 S1 x1 r1 => ⟨i, by simpa [R] using r1, k H1 S1 x1⟩⟩
theorem e_slice {lo hi : Option Expr} {i j : Option Int} {p2 : Pos} (ha : EE X M e cs a x cs1) (hl : EO X M e cs1 lo i cs2) (hh : EO X M e cs2 hi j cs3) (q : SlD X x i j z) : EE X M e cs (.Subscript a (.Slice lo hi none p2) pos) z cs3 where
  dm := hh.dm.trans (hl.dm.trans ha.dm)
  k := fun σ H Q S k => by
    obtain ⟨r, ho, hk⟩ := q
    obtain ⟨d1, tl, pl, kl⟩ := hl
    obtain ⟨d2, th, ph, kh⟩ := hh
    refine we_of (pe_slice ho pe_w pl ph) (ha.k σ H _ S fun v H1 S1 x1 r1 => kl σ H1 _ S1 fun H2 S2 x2 => kh σ H2 _ S2 fun H3 S3 x3 => hk M H3 v Q S3.mt (S2.r x3 (S1.r x2 r1)) (fin S3 ?_ k))
    exact (x1.trans (by rw [← ha.dm]; exact x2)).trans (by rw [← d1.trans ha.dm]; exact x3)
end
end Od

set_option Elab.async false
set_option linter.all false
set_option maxRecDepth 100000
set_option maxHeartbeats 4000000
namespace Od
open PySem L2

/-! ### promises -/
/-- called with args, the things cs as they are: gives res, the things become cs' -/
def fnSp (K : PySem.W.Frag) (mg : Str → Option Value) {ι : Type} (pre : ι → Prop) (args : ι → List D) (cs : ι → Cs) (res : ι → D) (cs' : ι → Cs) : Sp := fun vs H Q _ =>
  ∃ (M : Addr → Prop) (i : ι), pre i ∧ (∀ a, M a → H a ≠ none) ∧ Rs K mg M H vs (args i) ∧ (∀ p ∈ cs i, M p.1 ∧ Cell K mg M H p.1 p.2) ∧ (dom (cs i)).Nodup ∧
    ∀ v H', (∀ a, M a → H' a ≠ none) → Ext (dom (cs i)) H H' → (∀ p ∈ cs' i, M p.1 ∧ Cell K mg M H' p.1 p.2) → R K mg M H' v (res i) → Q v H'
/-- nothing that may change is asked -/
abbrev puSp (K : PySem.W.Frag) (mg : Str → Option Value) {ι : Type} (pre : ι → Prop) (args : ι → List D) (res : ι → D) : Sp := fnSp K mg pre args (fun _ => []) res (fun _ => [])
/-- __init__: the new instance behind it -/
def mkSp (K : PySem.W.Frag) (mg : Str → Option Value) (c : Str) {ι : Type} (pre : ι → Prop) (args : ι → List D) (ns : List Str) (ds : ι → List D) : Sp := fun vs H Q _ =>
  ∃ (M : Addr → Prop) (i : ι) (x C dx : Addr) (rest : List V), pre i ∧ vs = .ref x :: rest ∧ mg c = some (.ref C) ∧ H x = some (.ins C dx []) ∧ ¬ M x ∧ (∀ a, M a → H a ≠ none) ∧ Rs K mg (fun a => M a ∨ a = x) H rest (args i) ∧
    ∀ H', (∀ a, M a → H' a ≠ none) → Ext [x] H H' → R K mg M H' (.ref x) (.obj c ns (ds i)) → Q .non H'

/-- a def of the module -/
structure Dfn (P : Program) (w : World) (K : PySem.W.Frag) (mg : Str → Option Value) (base : Heap) (n : Str) (k : Nat) (sp : Sp) : Prop where
  ex : ∃ f, mg n = some (.ref f) ∧ PySem.W.keepIn K (.ref f) = true ∧ FnR P w K mg base (L2.CX P w) k f sp
/-- a method of a class -/
structure Mth (P : Program) (w : World) (K : PySem.W.Frag) (mg : Str → Option Value) (base : Heap) (c m : Str) (k : Nat) (sp : Sp) : Prop where
  ex : ∃ C f, mg c = some (.ref C) ∧ Cls K C ∧ Meth K C m f ∧ FnR P w K mg base (L2.CX P w) k f sp
/-- a property -/
structure Prp (P : Program) (w : World) (K : PySem.W.Frag) (mg : Str → Option Value) (base : Heap) (c m : Str) (k : Nat) (sp : Sp) : Prop where
  ex : ∃ C p g, mg c = some (.ref C) ∧ Cls K C ∧ PropOf K C m p g ∧ FnR P w K mg base (L2.CX P w) k g sp
/-- a class that is made -/
structure Mkr (P : Program) (w : World) (K : PySem.W.Frag) (mg : Str → Option Value) (base : Heap) (c : Str) (k : Nat) (sp : Sp) : Prop where
  ex : ∃ C f, mg c = some (.ref C) ∧ Mk K C f ∧ FnR P w K mg base (L2.CX P w) k f sp
/-- C.m is a static method: its record at p, its def at g -/
structure CStm (K : PySem.W.Frag) (C : Addr) (mc : Value) (m : Str) (g : Addr) : Prop where
  ex : ∃ p, PySem.W.findCls K (.ref C) mc m = some (.get (.builtin "staticmethod.__get__") (.ref p) .none (.ref C)) ∧ ∃ rest, PySem.W.recIn K p "staticmethod" = some (.ref g :: rest)
/-- a static method -/
structure Stc (P : Program) (w : World) (K : PySem.W.Frag) (mg : Str → Option Value) (base : Heap) (c m : Str) (k : Nat) (sp : Sp) : Prop where
  ex : ∃ C mc g, mg c = some (.ref C) ∧ ClX.CRead K C mc ∧ CStm K C mc m g ∧ PySem.W.keepIn K (.ref g) = true ∧ FnR P w K mg base (L2.CX P w) k g sp

/-- one thing has become another -/
inductive Upd1 (a : Addr) (c c' : MC) : Cs → Cs → Prop
  | here {r : Cs} : Upd1 a c c' ((a, c) :: r) ((a, c') :: r)
  | there {p : Addr × MC} {r r' : Cs} (h : Upd1 a c c' r r') : Upd1 a c c' (p :: r) (p :: r')
theorem Upd1.dm {a : Addr} {c c' : MC} {r r' : Cs} (h : Upd1 a c c' r r') : dom r' = dom r := by
  induction h with
  | here => rfl
  | there _ ih => exact congrArg (List.cons _) ih
theorem Upd1.mem {a : Addr} {c c' : MC} {r r' : Cs} (h : Upd1 a c c' r r') : (a, c) ∈ r := by
  induction h with
  | here => exact List.mem_cons_self
  | there _ ih => exact List.mem_cons_of_mem _ ih
theorem Upd1.of {a : Addr} {c c' : MC} {r r' : Cs} (h : Upd1 a c c' r r') : (dom r).Nodup → ∀ p ∈ r', p = (a, c') ∨ (p ∈ r ∧ p.1 ≠ a) := by
  induction h with
  | here =>
    intro nd p hp
    rcases List.mem_cons.mp hp with e | e
    · exact .inl e
    · refine .inr ⟨List.mem_cons_of_mem _ e, fun z => ?_⟩
      refine (List.nodup_cons.mp nd).1 ?_
      show a ∈ _
      rw [← z]
      exact List.mem_map_of_mem (f := (·.1)) e
  | there h ih =>
    intro nd p hp
    have nd' := (List.nodup_cons.mp nd)
    rcases List.mem_cons.mp hp with e | e
    · subst e
      refine .inr ⟨List.mem_cons_self, fun z => nd'.1 ?_⟩
      show p.1 ∈ _
      rw [z]
      exact List.mem_map_of_mem (f := (·.1)) h.mem
    · rcases ih nd'.2 p e with q | ⟨q1, q2⟩
      · exact .inl q
      · exact .inr ⟨List.mem_cons_of_mem _ q1, q2⟩

section
variable {X : Cx} {CX : CXT} {k : Nat} {f : Addr} {sp : Sp} {E : XK} {x m : Str} {p pos apos : Pos} {ex o : Expr} {es : List Expr} {t : TA} {ta : TE}
theorem pe_callR (F : FnR X.prog X.w X.K X.mg X.base CX k f sp) (hr : Room k X.A) (hg : Gl X x) (hm : X.mg x = some (.ref f)) (hk : PySem.W.keepIn X.K (.ref f) = true) (hx : Passes CX X E) (ha : PA X (ex :: es) t)
    (hdb : (x == ("__debug__" : Str)) = false := by decide) (he : starEach (ex :: es) X.env = (false, eval ex X.env) :: starEach es X.env := by rfl) (hpl : (backTo pos (starEach es X.env)).any (·.1) = false := by rfl) :
    PE X (.Call (.Name x p) (ex :: es) [] pos) (fun σ H Q => t σ H fun vs H1 => sp vs H1 Q E) := by
  refine ⟨fun pins s σ H Q I h => ?_⟩
  refine wpAny_Call_Name_kw (ld_glob I hg hm ?_ hdb)
  refine PySem.W.callWith_K (h₀ := X.base) I.ok.mod.kin hk (thn (ha.run pos pins s σ H _ I h) fun us s1 ⟨vs, H1, I1, r, q⟩ => ⟨I1.kIn, ?_⟩) he hpl
  exact wpAny_call (run_fnR F hr hx I1 r q)
theorem pe_callR0 (F : FnR X.prog X.w X.K X.mg X.base CX k f sp) (hr : Room k X.A) (hg : Gl X x) (hm : X.mg x = some (.ref f)) (hk : PySem.W.keepIn X.K (.ref f) = true) (hx : Passes CX X E)
    (hdb : (x == ("__debug__" : Str)) = false := by decide) : PE X (.Call (.Name x p) [] [] pos) (fun σ H Q => sp [] H Q E) := by
  refine ⟨fun pins s σ H Q I h => ?_⟩
  refine wpAny_Call_Name_kw (ld_glob I hg hm ?_ hdb)
  exact PySem.W.callWith_K0 I.kIn hk (wpAny_call (run_fnR (us := []) F hr hx I .nil h))
theorem pe_methR0 {C : Addr} {pl : Sem Bool} (he : PE X o ta) (c : Cls X.K C) (hm : Meth X.K C m f) (F : FnR X.prog X.w X.K X.mg X.base CX k f sp) (hr : Room k X.A) (hx : Passes CX X E)
    (ht : eval (.Call (.Attribute o m apos) [] [] pos) X.env = (do
      let ov ← eval o X.env
      standAt apos.atName
      let (f, first) ← holding [ov] (getMethod ov m pl)
      callWith pos f first (backTo pos (starEach [] X.env)) (backToKw pos (keywordEach [] X.env))) := by rfl) :
    PE X (.Call (.Attribute o m apos) [] [] pos) (fun σ H Q => ta σ H fun x H1 => ∃ a dx fs, x = .ref a ∧ H1 a = some (.ins C dx fs) ∧ fs.lookup m = none ∧ sp [x] H1 Q E) := by
  refine ⟨fun pins s σ H Q I h => ?_⟩
  refine PySem.W.methodCall_KW (pl := pl) (thn (he.run pins s σ H _ I h) fun u s1 ⟨x, H1, I1, rx, a, dx, fs, ex, ea, l, q⟩ => ?_) ht
  subst ex
  obtain rfl : u = Value.ref a := rx
  refine getmeth_ok I1 ea c hm l ?_
  exact PySem.W.callWith_K0 (first := [.ref a]) I1.kIn hm.kp (wpAny_call (run_fnR (us := [.ref a]) (vs := [.ref a]) F hr hx I1 (.cons rfl .nil) q))
/-- e.f, a property -/
theorem pe_propR {C pp g : Addr} {fn : Str} (he : PE X o ta) (c : Cls X.K C) (hp : PropOf X.K C fn pp g) (F : FnR X.prog X.w X.K X.mg X.base CX k g sp) (hr : Room (k + 1) X.A) (hx : Passes CX X.nox E)
    (hab : attributeBase o fn X.env (eval o X.env) = eval o X.env) : PE X (.Attribute o fn pos) (fun σ H Q => ta σ H fun x H1 => ∃ a dx fs, x = .ref a ∧ H1 a = some (.ins C dx fs) ∧ sp [.ref a] H1 Q E) := by
  refine ⟨fun pins s σ H Q I0 h => ?_⟩
  refine attr_of hab (thn (he.run pins s σ H _ I0 h) fun u s1 ⟨x, H1, I, rx, a, dx, fs, ex, ea, q⟩ => ?_)
  subst ex
  obtain rfl : u = Value.ref a := rx
  obtain ⟨mA, O, _, _, _, _⟩ := ins_get I.hok ea
  obtain ⟨od, J, _⟩ := O.look
  obtain ⟨rest, hrec⟩ := hp.rec_
  have I1 := I.tok (s1.toks + 1)
  have hc : (PySem.W.clsIn X.K C).isSome = true := by
    obtain ⟨cd, hc, _⟩ := PySem.W.any_some c.hd
    rw [hc]; rfl
  refine PySem.W.get_bind I.kIn J (PySem.W.plainGet_of (c.get fn)).1 (PySem.W.findObj_data hc hp.at_ hp.get hp.tak) (PySem.W.plainGet_of (c.get fn)).2 (wpAny_call (PySem.W.prop_get (s := { s1 with toks := s1.toks + 1 }) I.kIn hrec ?_))
  refine codeAny_mono (F X.A.in1 X.stack { s1 with toks := s1.toks + 1 } H1 [.ref a] [.ref a] Q E hr.in1 I1.env0.in1 (.cons rfl .nil) q) fun r s' hq => ?_
  cases r with
  | error er => exact False.elim (hx pins σ H1 { s1 with toks := s1.toks + 1 } er s' (I1.wish _) hq)
  | ok fl =>
    cases fl with
    | ret u =>
      obtain ⟨v, H', I3, rv, q3⟩ := I1.after hq
      show wpAny _ _ (handedOut u) _ _ _
      rw [PySem.W.handedOut_of (handed_of rv)]
      exact wpAny_pure ⟨v, H', I3, rv, q3⟩
    | next => exact False.elim hq
    | brk => exact False.elim hq
    | cont => exact False.elim hq
theorem getcst_ok {C g : Addr} {mc : Value} {b : Bool} {pins : List (Addr × Obj)} {σ : L2.St} {H : Hp} {s : Shared} {A : Around} {E : Value → Shared → Prop} {Q : Value → Shared → Prop} (I : Inv X pins σ H s) (r : ClX.CRead X.K C mc) (k : CStm X.K C mc m g) (h : ∀ s', Inv X pins σ H s' → Q (.ref g) s') : wpAny (model X.prog X.w) A (getAttr (.ref C) m b) Q E s := by
  obtain ⟨p, h1, rest, h2⟩ := k.ex
  exact PySem.W.cls_bind I.kIn r.rd h1 (wpAny_call (PySem.W.sm_get (s := { s with toks := s.toks + 1 }) I.kIn h2 (PySem.W.handed_on rfl (h _ (I.tok _)))))
/-- C.m(..), m a static method -/
theorem pe_cstat {C g : Addr} {mc : Value} {pl : Sem Bool} (he : PE X o ta) (r : ClX.CRead X.K C mc) (c : CStm X.K C mc m g) (hk : PySem.W.keepIn X.K (.ref g) = true) (F : FnR X.prog X.w X.K X.mg X.base CX k g sp) (hr : Room k X.A) (hx : Passes CX X E) (ha : PA X (ex :: es) t)
    (hst : starEach (ex :: es) X.env = (false, eval ex X.env) :: starEach es X.env := by rfl) (hpl : (backTo pos (starEach es X.env)).any (·.1) = false := by rfl)
    (ht : eval (.Call (.Attribute o m apos) (ex :: es) [] pos) X.env = (do
      let ov ← eval o X.env
      standAt apos.atName
      let (f, first) ← holding [ov] (getMethod ov m pl)
      callWith pos f first (backTo pos (starEach (ex :: es) X.env)) (backToKw pos (keywordEach [] X.env))) := by rfl) :
    PE X (.Call (.Attribute o m apos) (ex :: es) [] pos) (fun σ H Q => ta σ H fun x H1 => x = .ref C ∧ t σ H1 fun vs H2 => sp vs H2 Q E) := by
  refine ⟨fun pins s σ H Q I h => ?_⟩
  refine PySem.W.methodCall_KW (pl := pl) (thn (he.run pins s σ H _ I h) fun u s1 ⟨x, H1, I1, rx, ex, q⟩ => ?_) ht
  subst ex
  obtain rfl : u = Value.ref C := rx
  refine PySem.W.method_cls I1.kIn r.ga (getcst_ok I1 r c fun s2 I2 => ?_)
  refine PySem.W.callWith_K (first := []) (h₀ := X.base) I2.ok.mod.kin hk (thn (ha.run pos pins s2 σ H1 _ I2 q) fun us s3 ⟨vs, H2, I3, rv, q2⟩ => ⟨I3.kIn, ?_⟩) hst hpl
  exact wpAny_call (run_fnR F hr hx I3 rv q2)
theorem pe_cstat0 {C g : Addr} {mc : Value} {pl : Sem Bool} (he : PE X o ta) (r : ClX.CRead X.K C mc) (c : CStm X.K C mc m g) (hk : PySem.W.keepIn X.K (.ref g) = true) (F : FnR X.prog X.w X.K X.mg X.base CX k g sp) (hr : Room k X.A) (hx : Passes CX X E)
    (ht : eval (.Call (.Attribute o m apos) [] [] pos) X.env = (do
      let ov ← eval o X.env
      standAt apos.atName
      let (f, first) ← holding [ov] (getMethod ov m pl)
      callWith pos f first (backTo pos (starEach [] X.env)) (backToKw pos (keywordEach [] X.env))) := by rfl) :
    PE X (.Call (.Attribute o m apos) [] [] pos) (fun σ H Q => ta σ H fun x H1 => x = .ref C ∧ sp [] H1 Q E) := by
  refine ⟨fun pins s σ H Q I h => ?_⟩
  refine PySem.W.methodCall_KW (pl := pl) (thn (he.run pins s σ H _ I h) fun u s1 ⟨x, H1, I1, rx, ex, q⟩ => ?_) ht
  subst ex
  obtain rfl : u = Value.ref C := rx
  refine PySem.W.method_cls I1.kIn r.ga (getcst_ok I1 r c fun s2 I2 => ?_)
  exact PySem.W.callWith_K0 (first := []) I2.kIn hk (wpAny_call (run_fnR (us := []) F hr hx I2 .nil q))
/-- C() by a positional promise -/
theorem pe_makeR0 {C : Addr} (M : Mk X.K C f) (F : FnR X.prog X.w X.K X.mg X.base CX k f sp) (hr : Room (k + 1) X.A) (hg : Gl X x) (hm : X.mg x = some (.ref C)) (hx : Passes CX X E) (hdb : (x == ("__debug__" : Str)) = false := by decide) :
    PE X (.Call (.Name x p) [] [] pos) (StX.tMakeR C sp E tNil) := by
  refine ⟨fun pins s σ H Q I h => ?_⟩
  refine wpAny_Call_Name_kw (ld_glob I hg hm ?_ hdb)
  exact PySem.W.callWith_K0 I.kIn M.kp (StX.run_makeR (us := []) M F hr hx I .nil h)
end

section
variable {X : Cx} {M : Addr → Prop} {e : DE} {cs cs1 cs2 cs3 : Cs} {pos p pos' apos : Pos} {a b c ex o : Expr} {es : List Expr} {d x y z : D} {ds : List D} {n m : Str} {k j : Nat}
variable {ι : Type} {pre : ι → Prop} {args : ι → List D} {cz cz' : ι → Cs} {res : ι → D}

/-- what a promise gives at a caller's -/
theorem sp_use {σ : L2.St} {H : Hp} {Q : VK} {E : XK} {vs : List V} (i : ι) (hp : pre i) (S : Sit X.K X.mg M σ H e cs1) (r : Rs X.K X.mg M H vs (args i)) (hz : ∀ q ∈ cz i, q ∈ cs1) (nd : (dom (cz i)).Nodup)
    (hd : dom cs2 = dom cs1) (hz' : ∀ q ∈ cs2, q ∈ cz' i ∨ (q ∈ cs1 ∧ q.1 ∉ dom (cz i)))
    (k : ∀ v H', Sit X.K X.mg M σ H' e cs2 → Ext (dom cs1) H H' → R X.K X.mg M H' v (res i) → Q v H') : fnSp X.K X.mg pre args cz res cz' vs H Q E := by
  refine ⟨M, i, hp, S.mt, r, fun q hq => S.cel q (hz q hq), nd, fun v H' mt xt cl rv => ?_⟩
  have hsub : ∀ a ∈ dom (cz i), a ∈ dom cs1 := fun a ha => by
    obtain ⟨q, hq, rfl⟩ := List.mem_map.mp ha
    exact List.mem_map_of_mem (hz q hq)
  have xt' : Ext (dom cs1) H H' := xt.mono hsub
  refine k v H' (S.step hd xt' mt fun q hq => ?_) xt' rv
  rcases hz' q hq with h | ⟨h, hn⟩
  · exact cl q h
  · exact ⟨(S.cel q h).1, (S.cel q h).2.ext (S.keeps xt') (fun _ n _ => n) fun u hu => xt _ u hu hn⟩
/-- f(..), nothing changes -/
theorem e_call (F : Dfn X.prog X.w X.K X.mg X.base n k (puSp X.K X.mg pre args res)) (hr : Room k X.A) (ha : EA X M e cs (a :: es) ds cs1) (i : ι) (hp : pre i) (hds : ds = args i) (hg : Gl X n := by rfl)
    (hdb : (n == ("__debug__" : Str)) = false := by decide) (he : starEach (a :: es) X.env = (false, eval a X.env) :: starEach es X.env := by rfl) (hpl : (backTo pos (starEach es X.env)).any (·.1) = false := by rfl) : EE X M e cs (.Call (.Name n p) (a :: es) [] pos) (res i) cs1 where
  dm := ha.dm
  k := fun σ H Q S k => by
    obtain ⟨f, hm, hk, F⟩ := F.ex
    refine we_of (pe_callR (E := E0) F hr hg hm hk passL pa_w hdb he hpl) (ha.k σ H _ S fun vs H1 S1 x1 r1 => ?_)
    subst hds
    exact sp_use i hp S1 r1 (by simp) (by simp) rfl (fun q hq => .inr ⟨hq, by simp⟩) fun v H' S2 x2 r2 => k v H' S2 (x1.trans (by rw [← ha.dm]; exact x2)) r2
theorem e_call0 (F : Dfn X.prog X.w X.K X.mg X.base n k (puSp X.K X.mg pre args res)) (hr : Room k X.A) (i : ι) (hp : pre i) (hds : [] = args i) (hg : Gl X n := by rfl) (hdb : (n == ("__debug__" : Str)) = false := by decide) : EE X M e cs (.Call (.Name n p) [] [] pos) (res i) cs where
  dm := rfl
  k := fun σ H Q S k => by
    obtain ⟨f, hm, hk, F⟩ := F.ex
    refine we_of (pe_callR0 (E := E0) F hr hg hm hk passL hdb) ?_
    exact sp_use i hp S (by rw [← hds]; exact Rs.nil) (by simp) (by simp) rfl (fun q hq => .inr ⟨hq, by simp⟩) fun v H' S2 x2 r2 => k v H' S2 x2 r2
/-- f(..), one thing changes -/
theorem e_call1 {ad : Addr} {mc mc' : MC} (F : Dfn X.prog X.w X.K X.mg X.base n k (fnSp X.K X.mg pre args cz res cz')) (hr : Room k X.A) (ha : EA X M e cs (a :: es) ds cs1) (i : ι) (hp : pre i) (hds : ds = args i) (h1 : cz i = [(ad, mc)]) (h2 : cz' i = [(ad, mc')]) (hu : Upd1 ad mc mc' cs1 cs2) (hg : Gl X n := by rfl)
    (hdb : (n == ("__debug__" : Str)) = false := by decide) (he : starEach (a :: es) X.env = (false, eval a X.env) :: starEach es X.env := by rfl) (hpl : (backTo pos (starEach es X.env)).any (·.1) = false := by rfl) : EE X M e cs (.Call (.Name n p) (a :: es) [] pos) (res i) cs2 where
  dm := hu.dm.trans ha.dm
  k := fun σ H Q S k => by
    obtain ⟨f, hm, hk, F⟩ := F.ex
    refine we_of (pe_callR (E := E0) F hr hg hm hk passL pa_w hdb he hpl) (ha.k σ H _ S fun vs H1 S1 x1 r1 => ?_)
    subst hds
    refine sp_use i hp S1 r1 (by rw [h1]; simpa using hu.mem) (by rw [h1]; simp) hu.dm (fun q hq => ?_) fun v H' S2 x2 r2 => k v H' S2 (x1.trans (by rw [← ha.dm]; exact x2)) r2
    rw [h1, h2]
    rcases hu.of S1.nd q hq with z | ⟨z1, z2⟩
    · exact .inl (by simp [z])
    · exact .inr ⟨z1, by simpa using z2⟩

/-! ### objects -/
theorem r_obj {H : Hp} {v : V} {cn : Str} {ns : List Str} (r : R X.K X.mg M H v (.obj cn ns ds)) : ∃ (a C dx : Addr) (xs : List V), v = .ref a ∧ ¬ M a ∧ X.mg cn = some (.ref C) ∧ H a = some (.ins C dx (ns.zip xs)) ∧ ns.length = xs.length ∧ Rs X.K X.mg M H xs ds := by
  unfold R at r; exact r
theorem zip_lookup {m : Str} : ∀ {ns : List Str} {xs : List V} {i : Nat} {x : V}, ns.idxOf? m = some i → xs[i]? = some x → (ns.zip xs).lookup m = some x
  | [], _, _, _, h, _ => by simp at h
  | n :: ns, [], i, _, _, e => by simp at e
  | n :: ns, y :: xs, i, x, h, e => by
    rw [List.idxOf?_cons] at h
    by_cases q : n = m
    · subst q
      simp at h; subst h
      simp at e; subst e
      simp [List.lookup]
    · simp [q] at h
      obtain ⟨j, hj, rfl⟩ := h
      have : (m == n) = false := by simpa using fun z => q z.symm
      simp only [List.zip_cons_cons, List.lookup_cons, this]
      exact zip_lookup hj (by simpa using e)
theorem zip_lookup_none {m : Str} : ∀ {ns : List Str} {xs : List V}, m ∉ ns → (ns.zip xs).lookup m = none
  | [], _, _ => by simp
  | n :: ns, [], _ => by simp
  | n :: ns, y :: xs, h => by
    have h1 : (m == n) = false := by simpa using fun z => h (by simp [z])
    simp only [List.zip_cons_cons, List.lookup_cons, h1]
    exact zip_lookup_none fun z => h (List.mem_cons_of_mem _ z)
/-- e.f, a field of an instance -/
theorem e_fld {cn : Str} {ns : List Str} {C : Addr} (ha : EE X M e cs a (.obj cn ns ds) cs1) (hm : X.mg cn = some (.ref C)) (hc : Cls X.K C) (hn : NoAttr X.K C m) (i : Nat) (hi : ns.idxOf? m = some i) (hd : ds[i]? = some d)
    (hb : attributeBase a m X.env (eval a X.env) = eval a X.env := by rfl) : EE X M e cs (.Attribute a m pos) d cs1 where
  dm := ha.dm
  k := fun σ H Q S k => we_of (pe_fld pe_w hb) (ha.k σ H _ S fun v H1 S1 x1 r1 => by
    obtain ⟨ad, C', dx, xs, rfl, _, hm', ho, hl, rs⟩ := r_obj r1
    rw [hm] at hm'; cases hm'
    obtain ⟨u, hu, ru⟩ := rs.get hd
    exact ⟨ad, C, dx, _, u, rfl, ho, hc, hn, zip_lookup hi hu, k u H1 S1 x1 ru⟩)
/-- e.f, a property -/
theorem e_prop {cn : Str} {ns : List Str} (F : Prp X.prog X.w X.K X.mg X.base cn m k (puSp X.K X.mg pre args res)) (hr : Room (k + 1) X.A) (ha : EE X M e cs a (.obj cn ns ds) cs1) (i : ι) (hp : pre i) (hds : [.obj cn ns ds] = args i)
    (hb : attributeBase a m X.env (eval a X.env) = eval a X.env := by rfl) : EE X M e cs (.Attribute a m pos) (res i) cs1 where
  dm := ha.dm
  k := fun σ H Q S k => by
    obtain ⟨C, pp, g, hm, hc, hpp, F⟩ := F.ex
    refine we_of (pe_propR (E := E0) pe_w hc hpp F hr passL hb) (ha.k σ H _ S fun v H1 S1 x1 r1 => ?_)
    obtain ⟨ad, C', dx, xs, rfl, _, hm', ho, hl, rs⟩ := r_obj r1
    rw [hm] at hm'; cases hm'
    refine ⟨ad, dx, _, rfl, ho, sp_use i hp S1 (by rw [← hds]; exact .cons r1 .nil) (by simp) (by simp) rfl (fun q hq => .inr ⟨hq, by simp⟩) fun v H' S2 x2 r2 => k v H' S2 (x1.trans (by rw [← ha.dm]; exact x2)) r2⟩
/-- o.m(..), o an instance that does not change -/
theorem e_meth {cn : Str} {ns : List Str} {pl : Sem Bool} (F : Mth X.prog X.w X.K X.mg X.base cn m k (puSp X.K X.mg pre args res)) (hr : Room k X.A) (ho : EE X M e cs o (.obj cn ns ds) cs1) (ha : EA X M e cs1 (a :: es) [x] cs2) (hnm : m ∉ ns) (i : ι) (hp : pre i) (hds : [.obj cn ns ds, x] = args i)
    (hst : starEach (a :: es) X.env = (false, eval a X.env) :: starEach es X.env := by rfl) (hpl : (backTo pos (starEach es X.env)).any (·.1) = false := by rfl)
    (ht : eval (.Call (.Attribute o m apos) (a :: es) [] pos) X.env = (do
      let ov ← eval o X.env
      standAt apos.atName
      let (f, first) ← holding [ov] (getMethod ov m pl)
      callWith pos f first (backTo pos (starEach (a :: es) X.env)) (backToKw pos (keywordEach [] X.env))) := by rfl) : EE X M e cs (.Call (.Attribute o m apos) (a :: es) [] pos) (res i) cs2 where
  dm := ha.dm.trans ho.dm
  k := fun σ H Q S k => by
    obtain ⟨C, f, hm, hc, hmt, F⟩ := F.ex
    refine we_of (pe_methR (E := E0) pe_w hc hmt F hr passL pa_w hst hpl ht) (ho.k σ H _ S fun v H1 S1 x1 r1 => ?_)
    obtain ⟨ad, C', dx, xs, rfl, hM, hm', hob, hl, rs⟩ := r_obj r1
    rw [hm] at hm'; cases hm'
    refine ⟨ad, dx, _, rfl, hob, zip_lookup_none hnm, ha.k σ H1 _ S1 fun vs H2 S2 x2 r2 => ?_⟩
    refine sp_use i hp S2 (by rw [← hds]; exact .cons (S1.r x2 r1) r2) (by simp) (by simp) rfl (fun q hq => .inr ⟨hq, by simp⟩) fun v H' S3 x3 r3 => k v H' S3 ((x1.trans (by rw [← ho.dm]; exact x2)).trans (by rw [← ho.dm, ← ha.dm]; exact x3)) r3
theorem e_meth0 {cn : Str} {ns : List Str} {pl : Sem Bool} (F : Mth X.prog X.w X.K X.mg X.base cn m k (puSp X.K X.mg pre args res)) (hr : Room k X.A) (ho : EE X M e cs o (.obj cn ns ds) cs1) (hnm : m ∉ ns) (i : ι) (hp : pre i) (hds : [.obj cn ns ds] = args i)
    (ht : eval (.Call (.Attribute o m apos) [] [] pos) X.env = (do
      let ov ← eval o X.env
      standAt apos.atName
      let (f, first) ← holding [ov] (getMethod ov m pl)
      callWith pos f first (backTo pos (starEach [] X.env)) (backToKw pos (keywordEach [] X.env))) := by rfl) : EE X M e cs (.Call (.Attribute o m apos) [] [] pos) (res i) cs1 where
  dm := ho.dm
  k := fun σ H Q S k => by
    obtain ⟨C, f, hm, hc, hmt, F⟩ := F.ex
    refine we_of (pe_methR0 (E := E0) pe_w hc hmt F hr passL ht) (ho.k σ H _ S fun v H1 S1 x1 r1 => ?_)
    obtain ⟨ad, C', dx, xs, rfl, hM, hm', hob, hl, rs⟩ := r_obj r1
    rw [hm] at hm'; cases hm'
    refine ⟨ad, dx, _, rfl, hob, zip_lookup_none hnm, ?_⟩
    refine sp_use i hp S1 (by rw [← hds]; exact .cons r1 .nil) (by simp) (by simp) rfl (fun q hq => .inr ⟨hq, by simp⟩) fun v H' S3 x3 r3 => k v H' S3 (x1.trans (by rw [← ho.dm]; exact x3)) r3
/-- C(..) -/
theorem mk_use {σ : L2.St} {H : Hp} {Q : VK} {C xa dx : Addr} {vs : List V} {cn : Str} {ns : List Str} {dz : ι → List D} {E : XK} (i : ι) (hp : pre i) (hm : X.mg cn = some (.ref C)) (S : Sit X.K X.mg M σ H e cs1) (r : Rs X.K X.mg M H vs (args i)) (hx : H xa = none) (hdx : H dx = none) (hne : dx ≠ xa)
    (k : ∀ v H', Sit X.K X.mg M σ H' e cs1 → Ext [] H H' → R X.K X.mg M H' v (.obj cn ns (dz i)) → Q v H') : mkSp X.K X.mg cn pre args ns dz (V.ref xa :: vs) (upd (upd H dx (.own xa)) xa (.ins C dx [])) (fun v H2 => v = .non ∧ Q (.ref xa) H2) E := by
  have ke : ∀ a o, H a = some o → upd (upd H dx (.own xa)) xa (.ins C dx []) a = some o := fun a o h => by
    rw [upd_ne (ne_of_none h hx), upd_ne (ne_of_none h hdx)]; exact h
  have tr : ∀ a, H a ≠ none → upd (upd H dx (.own xa)) xa (.ins C dx []) a ≠ none := fun a h => by
    cases q : H a with
    | none => exact absurd q h
    | some o => rw [ke a o q]; simp
  refine ⟨M, i, xa, C, dx, vs, hp, rfl, hm, upd_same, new_m S.mt hx, fun a ma => tr a (S.mt a ma), Rs.ext (fun a o _ h => ke a o h) (fun a n h z => z.elim n fun z => h (z ▸ hx)) _ r, fun H' mt xt ro => ⟨rfl, ?_⟩⟩
  have xt' : Ext [] H H' := fun a o h _ => xt a o (ke a o h) (by simpa using ne_of_none h hx)
  exact k _ H' (S.ex xt') xt' ro
theorem e_make {cn : Str} {ns : List Str} {dz : ι → List D} (F : Mkr X.prog X.w X.K X.mg X.base cn k (mkSp X.K X.mg cn pre args ns dz)) (hr : Room (k + 1) X.A) (ha : EA X M e cs (a :: es) ds cs1) (i : ι) (hp : pre i) (hds : ds = args i) (hg : Gl X cn := by rfl)
    (hdb : (cn == ("__debug__" : Str)) = false := by decide) (he : starEach (a :: es) X.env = (false, eval a X.env) :: starEach es X.env := by rfl) (hpl : (backTo pos (starEach es X.env)).any (·.1) = false := by rfl) : EE X M e cs (.Call (.Name cn p) (a :: es) [] pos) (.obj cn ns (dz i)) cs1 where
  dm := ha.dm
  k := fun σ H Q S k => by
    obtain ⟨C, f, hm, hmk, F⟩ := F.ex
    refine we_of (StX.pe_makeR (E := E0) hmk F hr hg hm passL pa_w hdb he hpl) (ha.k σ H _ S fun vs H1 S1 x1 r1 xa dx hx hdx hne => ?_)
    subst hds
    exact mk_use i hp hm S1 r1 hx hdx hne fun v H' S2 x2 r2 => k v H' S2 (x1.trans (x2.mono (by simp))) r2
theorem e_make0 {cn : Str} {ns : List Str} {dz : ι → List D} (F : Mkr X.prog X.w X.K X.mg X.base cn k (mkSp X.K X.mg cn pre args ns dz)) (hr : Room (k + 1) X.A) (i : ι) (hp : pre i) (hds : [] = args i) (hg : Gl X cn := by rfl)
    (hdb : (cn == ("__debug__" : Str)) = false := by decide) : EE X M e cs (.Call (.Name cn p) [] [] pos) (.obj cn ns (dz i)) cs where
  dm := rfl
  k := fun σ H Q S k => by
    obtain ⟨C, f, hm, hmk, F⟩ := F.ex
    refine we_of (pe_makeR0 (E := E0) hmk F hr hg hm passL hdb) (fun xa dx hx hdx hne => ?_)
    exact mk_use i hp hm S (by rw [← hds]; exact Rs.nil) hx hdx hne (fun v H' S2 x2 r2 => k v H' S2 (x2.mono (by simp)) r2)
/-- C.m(..), m static -/
theorem e_stat {cn : Str} {pl : Sem Bool} (F : Stc X.prog X.w X.K X.mg X.base cn m k (puSp X.K X.mg pre args res)) (hr : Room k X.A) (ha : EA X M e cs (a :: es) ds cs1) (i : ι) (hp : pre i) (hds : ds = args i) (hg : Gl X cn := by rfl) (hdb : (cn == ("__debug__" : Str)) = false := by decide)
    (hst : starEach (a :: es) X.env = (false, eval a X.env) :: starEach es X.env := by rfl) (hpl : (backTo pos (starEach es X.env)).any (·.1) = false := by rfl)
    (ht : eval (.Call (.Attribute (.Name cn p) m apos) (a :: es) [] pos) X.env = (do
      let ov ← eval (.Name cn p) X.env
      standAt apos.atName
      let (f, first) ← holding [ov] (getMethod ov m pl)
      callWith pos f first (backTo pos (starEach (a :: es) X.env)) (backToKw pos (keywordEach [] X.env))) := by rfl) : EE X M e cs (.Call (.Attribute (.Name cn p) m apos) (a :: es) [] pos) (res i) cs1 where
  dm := ha.dm
  k := fun σ H Q S k => by
    obtain ⟨C, mc, g, hm, hrd, hv, hk, F⟩ := F.ex
    refine we_of (pe_cstat (E := E0) (pe_glob (v := .ref C) hg hm rfl hdb) hrd hv hk F hr passL pa_w hst hpl ht) ⟨rfl, ha.k σ H _ S fun vs H1 S1 x1 r1 => ?_⟩
    subst hds
    exact sp_use i hp S1 r1 (by simp) (by simp) rfl (fun q hq => .inr ⟨hq, by simp⟩) fun v H' S2 x2 r2 => k v H' S2 (x1.trans (by rw [← ha.dm]; exact x2)) r2
theorem e_stat0 {cn : Str} {pl : Sem Bool} (F : Stc X.prog X.w X.K X.mg X.base cn m k (puSp X.K X.mg pre args res)) (hr : Room k X.A) (i : ι) (hp : pre i) (hds : [] = args i) (hg : Gl X cn := by rfl) (hdb : (cn == ("__debug__" : Str)) = false := by decide)
    (ht : eval (.Call (.Attribute (.Name cn p) m apos) [] [] pos) X.env = (do
      let ov ← eval (.Name cn p) X.env
      standAt apos.atName
      let (f, first) ← holding [ov] (getMethod ov m pl)
      callWith pos f first (backTo pos (starEach [] X.env)) (backToKw pos (keywordEach [] X.env))) := by rfl) : EE X M e cs (.Call (.Attribute (.Name cn p) m apos) [] [] pos) (res i) cs where
  dm := rfl
  k := fun σ H Q S k => by
    obtain ⟨C, mc, g, hm, hrd, hv, hk, F⟩ := F.ex
    refine we_of (pe_cstat0 (E := E0) (pe_glob (v := .ref C) hg hm rfl hdb) hrd hv hk F hr passL ht) ⟨rfl, ?_⟩
    exact sp_use i hp S (by rw [← hds]; exact Rs.nil) (by simp) (by simp) rfl (fun q hq => .inr ⟨hq, by simp⟩) fun v H' S2 x2 r2 => k v H' S2 x2 r2
/-- C.f, a constant of a class -/
theorem e_ccon {cn : Str} {C : Addr} {mc u : Value} {i : Int} (hm : X.mg cn = some (.ref C)) (hrd : ClX.CRead X.K C mc) (hv : ClX.CVal X.K C mc m (.int i) u) (hg : Gl X cn := by rfl) (hdb : (cn == ("__debug__" : Str)) = false := by decide)
    (hb : attributeBase (.Name cn p) m X.env (eval (.Name cn p) X.env) = eval (.Name cn p) X.env := by rfl) : EE X M e cs (.Attribute (.Name cn p) m pos) (.int i) cs where
  dm := rfl
  k := fun σ H Q S k => we_of (ClX.pe_cval (pe_glob (v := .ref C) hg hm rfl hdb) hb) ⟨C, mc, .int i, u, rfl, hrd, hv, k _ H S (Ext.refl _ _) (by simp [R])⟩
/-! ### built-ins -/
theorem e_blt {id : String} (q : CalD X (.builtin id) ds z) (ha : EA X M e cs (a :: es) ds cs1) (hm : X.mg n = none) (hv : bootBuiltins n = some (.builtin id) := by decide +kernel) (hg : Gl X n := by rfl) (hn : n ≠ "__name__" := by decide) (hdb : (n == ("__debug__" : Str)) = false := by decide)
    (he : starEach (a :: es) X.env = (false, eval a X.env) :: starEach es X.env := by rfl) (hpl : (backTo pos (starEach es X.env)).any (·.1) = false := by rfl) : EE X M e cs (.Call (.Name n p) (a :: es) [] pos) z cs1 where
  dm := ha.dm
  k := fun σ H Q S k => by
    obtain ⟨r, hr, hk⟩ := q
    exact we_of (pe_callB hr hg hm hv pa_w hn hdb he hpl) (ha.k σ H _ S fun vs H1 S1 x1 r1 => hk M H1 vs Q S1.mt r1 (fin S1 x1 k))
theorem e_bty {T : String} (q : CalD X (.type T) ds z) (ha : EA X M e cs (a :: es) ds cs1) (hm : X.mg n = none) (hv : bootBuiltins n = some (.type T) := by decide +kernel) (hg : Gl X n := by rfl) (hn : n ≠ "__name__" := by decide) (hdb : (n == ("__debug__" : Str)) = false := by decide)
    (he : starEach (a :: es) X.env = (false, eval a X.env) :: starEach es X.env := by rfl) (hpl : (backTo pos (starEach es X.env)).any (·.1) = false := by rfl) : EE X M e cs (.Call (.Name n p) (a :: es) [] pos) z cs1 where
  dm := ha.dm
  k := fun σ H Q S k => by
    obtain ⟨r, hr, hk⟩ := q
    exact we_of (pe_callTy hr hg hm hv pa_w hn hdb he hpl) (ha.k σ H _ S fun vs H1 S1 x1 r1 => hk M H1 vs Q S1.mt r1 (fin S1 x1 k))
/-- s.m(e), s a text -/
theorem e_strm {s : Str} {id : String} (q : StrD X id s [x] z) (ho : EE X M e cs o (.str s) cs1) (ha : EE X M e cs1 a x cs2) (slot : Slot "str" m id) (ty : typeOf (.builtin id) = pure (.type "method_descriptor"))
    (h1 : ∀ r, MtR X id r → PE X (.Call (.Attribute o m apos) [a] [] pos) (tM1 r (wE X o) (wE X a)) := by intro r hr; exact pe_m1 slot ty hr pe_w pe_w) : EE X M e cs (.Call (.Attribute o m apos) [a] [] pos) z cs2 where
  dm := ha.dm.trans ho.dm
  k := fun σ H Q S k => by
    obtain ⟨r, hr, hk⟩ := q
    refine we_of (h1 r hr) (ho.k σ H _ S fun v H1 S1 x1 r1 => ?_)
    simp [R] at r1
    subst r1
    exact ⟨⟨_, rfl⟩, ha.k σ H1 _ S1 fun u H2 S2 x2 r2 => hk M H2 [u] Q S2.mt (.cons r2 .nil) (fin S2 (x1.trans (by rw [← ho.dm]; exact x2)) k)⟩
end
end Od

set_option Elab.async false
set_option linter.all false
set_option maxRecDepth 100000
set_option maxHeartbeats 4000000
namespace Od
open PySem L2

/-! ### what is walked -/
/-- in every later heap the walk gives the data ds in turn -/
def Walks (X : Cx) (M : Addr → Prop) (J : It) (ds : List D) (H : Hp) : Prop := ∀ (M2 : Addr → Prop) (H2 : Hp), (∀ a o, ¬ M a → H a = some o → ¬ M2 a ∧ H2 a = some o) → (∀ a, M2 a → H2 a ≠ none) →
  (∀ (i : Nat) (d : D), ds[i]? = some d → J.go i H2 ∧ ∀ x H3, J.yld i H2 x H3 → Ext [] H2 H3 ∧ R X.K X.mg M2 H3 x d) ∧ J.stop ds.length H2
structure EI (X : Cx) (M : Addr → Prop) (e : DE) (cs : Cs) (tg iter : Expr) (ds : List D) (cs' : Cs) : Prop where
  dm : dom cs' = dom cs
  k : ∃ wi, PI X tg iter wi ∧ ∀ (σ : L2.St) (H : Hp) (Q : It → Hp → Prop), Sit X.K X.mg M σ H e cs → (∀ J H', Sit X.K X.mg M σ H' e cs' → Ext (dom cs) H H' → Walks X M J ds H' → Q J H') → wi σ H Q
section
variable {X : Cx} {M M' : Addr → Prop} {e : DE} {cs cs1 cs2 cs3 : Cs} {pos p pos' apos : Pos} {tg a b c ex o : Expr} {es : List Expr} {d x y z : D} {ds : List D} {n m : Str} {k j : Nat}
theorem r_lst {H : Hp} {v : V} (r : R X.K X.mg M H v (.lst ds)) : ∃ (a : Addr) (xs : List V), v = .ref a ∧ ¬ M a ∧ H a = some (.lst xs) ∧ Rs X.K X.mg M H xs ds := by unfold R at r; exact r
theorem r_tup {H : Hp} {v : V} (r : R X.K X.mg M H v (.tup ds)) : ∃ (a : Addr) (xs : List V), v = .ref a ∧ SqT X.K H a xs ∧ Rs X.K X.mg M H xs ds := by
  unfold R at r
  obtain ⟨a, xs, e, q, r⟩ := r
  refine ⟨a, xs, e, ?_, r⟩
  rcases q with ⟨_, q⟩ | q
  · exact .inl (.inl q)
  · exact .inr q
theorem later {M2 : Addr → Prop} {H H2 : Hp} (kp : ∀ a o, ¬ M a → H a = some o → ¬ M2 a ∧ H2 a = some o) {v : V} {d : D} (r : R X.K X.mg M H v d) : R X.K X.mg M2 H2 v d :=
  R.ext (fun a o n h => (kp a o n h).2) (fun a n h => by
    cases q : H a with
    | none => exact absurd q h
    | some o => exact (kp a o n q).1) _ r
theorem walks_list {H : Hp} {ad : Addr} {xs : List V} (nm : ¬ M ad) (h : H ad = some (.lst xs)) (r : Rs X.K X.mg M H xs ds) : Walks X M (Itl X.K ad) ds H := fun M2 H2 kp mt => by
  have h2 : SqL X.K H2 ad xs := .of (kp ad _ nm h).2
  have hl := r.length
  refine ⟨fun i d hd => ?_, ⟨xs, h2, Nat.le_of_eq hl⟩⟩
  obtain ⟨u, hu, ru⟩ := r.get hd
  refine ⟨⟨xs, u, h2, hu⟩, fun x H3 y => ?_⟩
  obtain ⟨rfl, y⟩ := y
  have := y xs h2
  rw [hu] at this; cases this
  exact ⟨Ext.refl _ _, later kp ru⟩
theorem walks_tup {H : Hp} {ad : Addr} {xs : List V} (h : (¬ M ad ∧ H ad = some (.tup xs)) ∨ KT X.K ad xs) (r : Rs X.K X.mg M H xs ds) : Walks X M (Itt X.K ad) ds H := fun M2 H2 kp mt => by
  have h2 : SqT X.K H2 ad xs := by
    rcases h with ⟨nm, h⟩ | h
    · exact .inl (.inl (kp ad _ nm h).2)
    · exact .inr h
  have hl := r.length
  refine ⟨fun i d hd => ?_, ⟨xs, h2, Nat.le_of_eq hl⟩⟩
  obtain ⟨u, hu, ru⟩ := r.get hd
  refine ⟨⟨xs, u, h2, hu⟩, fun x H3 y => ?_⟩
  obtain ⟨rfl, y⟩ := y
  have := y xs h2
  rw [hu] at this; cases this
  exact ⟨Ext.refl _ _, later kp ru⟩
theorem ei_list (ha : EE X M e cs a (.lst ds) cs1) : EI X M e cs tg a ds cs1 := ⟨ha.dm, _, pi_list pe_w, fun σ H Q S k => ha.k σ H _ S fun v H1 S1 x1 r1 => by
  obtain ⟨ad, xs, rfl, nm, h, r⟩ := r_lst r1
  exact ⟨ad, rfl, ⟨xs, .of h⟩, k _ H1 S1 x1 (walks_list nm h r)⟩⟩
theorem ei_tup (ha : EE X M e cs a (.tup ds) cs1) : EI X M e cs tg a ds cs1 := ⟨ha.dm, _, pi_tup pe_w, fun σ H Q S k => ha.k σ H _ S fun v H1 S1 x1 r1 => by
  unfold R at r1
  obtain ⟨ad, xs, rfl, h, r⟩ := r1
  refine ⟨ad, rfl, ⟨xs, ?_⟩, k _ H1 S1 x1 (walks_tup h r)⟩
  rcases h with ⟨_, h⟩ | h
  · exact .inl (.inl h)
  · exact .inr h⟩
/-- the signs of a text -/
def signs (s : Str) : List Str := s.cps.toList.map fun c => ⟨#[c]⟩
theorem ei_str {s : Str} (ha : EE X M e cs a (.str s) cs1) : EI X M e cs tg a ((signs s).map D.str) cs1 := ⟨ha.dm, _, pi_str pe_w, fun σ H Q S k => ha.k σ H _ S fun v H1 S1 x1 r1 => by
  simp [R] at r1
  refine ⟨s, r1, k _ H1 S1 x1 fun M2 H2 kp mt => ⟨fun i d hd => ?_, ?_⟩⟩
  · simp [signs] at hd
    obtain ⟨c, hc, rfl⟩ := hd
    have hc' : s.cps[i]? = some c := by rw [← Array.getElem?_toList]; simpa using hc
    refine ⟨(Array.getElem?_eq_some_iff.mp hc').1, fun x H3 y => ?_⟩
    obtain ⟨rfl, c', hc2, rfl⟩ := y
    rw [hc'] at hc2; cases hc2
    exact ⟨Ext.refl _ _, by simp [R]⟩
  · show s.cps.size ≤ _
    simp [signs]⟩
def ups (lo : Int) (n : Nat) : List Int := (List.range n).map fun (i : Nat) => lo + (i : Int)
theorem walks_rng {H : Hp} {lo : Int} {n : Nat} : Walks X M (Itr lo n) ((ups lo n).map D.int) H := fun M2 H2 kp mt => by
  refine ⟨fun i d hd => ?_, ?_⟩
  · have hi : i < n := by
      have := (List.getElem?_eq_some_iff.mp hd).1
      simpa [ups] using this
    have hd' : d = .int (lo + (i : Int)) := by
      simp [ups, hi] at hd
      exact hd.symm
    subst hd'
    refine ⟨hi, fun x H3 y => ?_⟩
    obtain ⟨rfl, rfl⟩ := y
    exact ⟨Ext.refl _ _, by simp [R]⟩
  · show n ≤ _
    simp [ups]
theorem ei_rng1 {i : Int} (ha : EE X M e cs a (.int i) cs1) (hm : X.mg "range" = none) (hi : -(2 ^ 62) ≤ i ∧ i < 2 ^ 62) (hg : Gl X "range" := by rfl) (hs : starEach [a] X.env = [(false, eval a X.env)] := by rfl) : EI X M e cs tg (.Call (.Name "range" p) [a] [] pos) ((ups 0 i.toNat).map D.int) cs1 :=
  ⟨ha.dm, _, pi_range1 hg hm (pa_cons pe_w pa_nil (by rw [hs]; rfl)) hs, fun σ H Q S k => ha.k σ H _ S fun v H1 S1 x1 r1 => by
    simp [R] at r1
    exact ⟨i, by rw [r1], hi.1, hi.2, k _ H1 S1 x1 walks_rng⟩⟩
theorem ei_rng2 {i j : Int} (ha : EE X M e cs a (.int i) cs1) (hb : EE X M e cs1 b (.int j) cs2) (hm : X.mg "range" = none) (hi : -(2 ^ 62) ≤ i ∧ i < 2 ^ 62 ∧ -(2 ^ 62) ≤ j ∧ j < 2 ^ 62) (hg : Gl X "range" := by rfl)
    (hs : starEach [a, b] X.env = [(false, eval a X.env), (false, eval b X.env)] := by rfl) (hs2 : starEach [b] X.env = [(false, eval b X.env)] := by rfl) : EI X M e cs tg (.Call (.Name "range" p) [a, b] [] pos) ((ups i (j - i).toNat).map D.int) cs2 :=
  ⟨hb.dm.trans ha.dm, _, pi_range2 hg hm (pa_cons pe_w (pa_cons pe_w pa_nil (by rw [hs2]; rfl)) (by rw [hs, hs2])) hs hs2, fun σ H Q S k => ha.k σ H _ S fun v H1 S1 x1 r1 => hb.k σ H1 _ S1 fun u H2 S2 x2 r2 => by
    simp [R] at r1 r2
    exact ⟨i, j, by rw [r1, r2], hi, k _ H2 S2 (x1.trans (by rw [← ha.dm]; exact x2)) walks_rng⟩⟩

/-- a marked thing, none of the told ones, is written -/
theorem Sit.upd {K : PySem.W.Frag} {mg : Str → Option Value} {σ : L2.St} {H : Hp} {p : Addr} {o : HO} (S : Sit K mg M σ H e cs) (hp : M p) (hd : p ∉ dom cs) : Sit K mg M σ (upd H p o) e cs where
  mt := fun a m => by
    by_cases h : a = p
    · subst h; rw [upd_same]; simp
    · rw [upd_ne h]; exact S.mt a m
  len := S.len
  env := fun i d q => by
    obtain ⟨v, e1, r⟩ := S.env i d q
    exact ⟨v, e1, R.ext (fun a u n h => by rw [upd_ne (fun z => n (by rw [z]; exact hp))]; exact h) (fun _ n _ => n) d r⟩
  cel := fun q hq => by
    obtain ⟨m, c⟩ := S.cel q hq
    have hne : q.1 ≠ p := fun z => hd (z ▸ List.mem_map_of_mem (f := (·.1)) hq)
    exact ⟨m, c.ext (fun a u n h => by rw [upd_ne (fun z => n (by rw [z]; exact hp))]; exact h) (fun _ n _ => n) fun u h => by rw [upd_ne hne]; exact h⟩
  nd := S.nd

/-! ### comprehensions -/
theorem wipe_get {σ : L2.St} {i : Nat} : ∀ {vs : List Nat}, (wipe σ vs)[i]? = if i ∈ vs ∧ i < σ.length then some none else σ[i]?
  | [] => by simp [wipe]
  | v :: vs => by
    unfold wipe
    by_cases h : v = i
    · subst h
      by_cases hl : v < σ.length
      · rw [List.getElem?_set_self (by rw [wipe_length]; exact hl)]; simp [hl]
      · rw [List.getElem?_eq_none (by rw [List.length_set, wipe_length]; omega), if_neg (by simp [hl]), List.getElem?_eq_none (by omega)]
    · rw [List.getElem?_set_ne h, wipe_get (vs := vs)]
      have : i ≠ v := fun e => h e.symm
      simp [this]
theorem wipe_same {σ σ' : L2.St} {vs : List Nat} (hl : σ'.length = σ.length) (h : ∀ i, i ∉ vs → σ'[i]? = σ[i]?) : wipe σ' vs = wipe σ vs := by
  apply List.ext_getElem?
  intro i
  rw [wipe_get, wipe_get, hl]
  by_cases q : i ∈ vs
  · by_cases l : i < σ.length
    · simp [q, l]
    · rw [if_neg (by simp [l]), if_neg (by simp [l]), List.getElem?_eq_none (by omega), List.getElem?_eq_none (by omega)]
  · simp [q, h i q]
def outs (keep : Nat → Bool) (out : Nat → D) (n : Nat) : List D := ((List.range n).filter keep).map out
theorem outs_yes {keep : Nat → Bool} {out : Nat → D} {n : Nat} (h : keep n = true) : outs keep out (n + 1) = outs keep out n ++ [out n] := by simp [outs, List.range_succ, List.filter_append, h]
theorem outs_no {keep : Nat → Bool} {out : Nat → D} {n : Nat} (h : keep n = false) : outs keep out (n + 1) = outs keep out n := by simp [outs, List.range_succ, List.filter_append, h]
theorem range_self : ∀ ds : List D, (List.range ds.length).map (fun i => (ds[i]?).getD .non) = ds := fun ds => by
  apply List.ext_getElem?
  intro i
  by_cases hi : i < ds.length
  · simp [hi]
  · simp [hi]
theorem outs_filter (p : D → Bool) (f : D → D) (ds : List D) : outs (fun i => p ((ds[i]?).getD .non)) (fun i => f ((ds[i]?).getD .non)) ds.length = (ds.filter p).map f := by
  have e := range_self ds
  conv => rhs; rw [← e]
  rw [List.filter_map, List.map_map]
  rfl
theorem outs_map (f : D → D) (ds : List D) : outs (fun _ => true) (fun i => f ((ds[i]?).getD .non)) ds.length = ds.map f := by
  have h := outs_filter (fun _ => true) f ds
  rw [h]
  congr 1
  exact List.filter_eq_self.mpr fun _ _ => rfl
theorem outs_len {keep : Nat → Bool} {out : Nat → D} {n : Nat} : (outs keep out n).length ≤ n := by
  unfold outs
  rw [List.length_map]
  exact Nat.le_trans (List.length_filter_le _ _) (by simp)
abbrev blkOf (X : Cx) (scope : Scope) (s : Shared) (H : Hp) (C : Addr) (cl : List (Str × Addr)) (fp : List Addr) : Cx := X.blk s H scope (compEnvC scope cl C X.env) fp
/-- the target of a comprehension: what the names hold behind it -/
structure CTg (X : Cx) (scope : Scope) (vs : List Nat) (e : DE) (tg : Expr) (ef : D → DE) (P : D → Prop) : Prop where
  k : ∃ g, (∀ (s : Shared) (H : Hp) (C : Addr) (cl : List (Str × Addr)) (fp : List Addr), PG (blkOf X scope s H C cl fp) tg g) ∧
    ∀ (M' : Addr → Prop) (cs : Cs) (σ : L2.St) (H : Hp) (x : V) (d : D) (Q : L2.St → Hp → Prop), P d → Sit X.K X.mg M' (wipe σ vs) H (wipeD e vs) cs → R X.K X.mg M' H x d → (∀ σ', wipe σ' vs = wipe σ vs → Sit X.K X.mg M' σ' H (ef d) cs → Q σ' H) → g x (wipe σ vs) H Q
theorem ctg_name {scope : Scope} {vs : List Nat} (j : Nat) (hN : X.N.Nodup) (hjv : j ∈ vs) (hj : X.N[j]? = some n := by rfl) (hx : ∀ (cl : List (Str × Addr)) (C : Addr), Loc (compEnvC scope cl C X.env).scope n := by intro _ _; first | exact .inl rfl | exact .inr rfl)
    (hf : ∀ (s : Shared) (H : Hp) (C : Addr) (cl : List (Str × Addr)) (fp : List Addr), (blkOf X scope s H C cl fp).fn n = true ∨ (blkOf X scope s H C cl fp).env.scope.names.lookup n = some .local := by intro _ _ _ _ _; first | exact .inr rfl | exact .inl rfl) :
    CTg X scope vs e (.Name n p) (fun d => (wipeD e vs).set j (some d)) (fun _ => True) := ⟨gName j, fun s H C cl fp => pg_name hN hj (hx cl C) (hf s H C cl fp), fun M' cs σ H x d Q _ S r k => by
  refine k _ (wipe_same (by simp [wipe_length]) fun i hi => ?_) (S.set j r)
  have hji : j ≠ i := fun q => hi (q ▸ hjv)
  rw [List.getElem?_set_ne hji, wipe_get]
  simp [hi]⟩
/-- for a, b in ..: pairs -/
theorem ctg_pair {scope : Scope} {vs : List Nat} {n2 : Str} {p2 p3 : Pos} {k0} (i j : Nat) (hN : X.N.Nodup) (hiv : i ∈ vs) (hjv : j ∈ vs) (hi : X.N[i]? = some n := by rfl) (hj : X.N[j]? = some n2 := by rfl) (hx : ∀ (cl : List (Str × Addr)) (C : Addr), Loc (compEnvC scope cl C X.env).scope n := by intro _ _; first | exact .inl rfl | exact .inr rfl)
    (hx2 : ∀ (cl : List (Str × Addr)) (C : Addr), Loc (compEnvC scope cl C X.env).scope n2 := by intro _ _; first | exact .inl rfl | exact .inr rfl)
    (hf : ∀ (s : Shared) (H : Hp) (C : Addr) (cl : List (Str × Addr)) (fp : List Addr), (blkOf X scope s H C cl fp).fn n = true ∨ (blkOf X scope s H C cl fp).env.scope.names.lookup n = some .local := by intro _ _ _ _ _; first | exact .inr rfl | exact .inl rfl)
    (hf2 : ∀ (s : Shared) (H : Hp) (C : Addr) (cl : List (Str × Addr)) (fp : List Addr), (blkOf X scope s H C cl fp).fn n2 = true ∨ (blkOf X scope s H C cl fp).env.scope.names.lookup n2 = some .local := by intro _ _ _ _ _; first | exact .inr rfl | exact .inl rfl) (hc : X.calm = true := by rfl)
    (h1 : ∀ E : Env, (assignEach [.Name n p, .Name n2 p2] E).length = 2 := by intro _; rfl) (h2 : ∀ E : Env, (assignEach [.Name n p, .Name n2 p2] E).findIdx? (·.1) = none := by intro _; rfl)
    (h3 : ∀ E : Env, (assignEach [.Name n p, .Name n2 p2] E).map (·.2) = assign (.Name n p) E :: (assignEach [.Name n2 p2] E).map (·.2) := by intro _; rfl) (h4 : ∀ E : Env, (assignEach [.Name n2 p2] E).map (·.2) = assign (.Name n2 p2) E :: (assignEach [] E).map (·.2) := by intro _; rfl) :
    CTg X scope vs e (.Tuple [.Name n p, .Name n2 p2] k0 p3) (fun d => match d with | .tup [x, y] => ((wipeD e vs).set i (some x)).set j (some y) | _ => []) (fun d => ∃ x y, d = .tup [x, y]) :=
  ⟨gTup X.K 2 (gCons (gName i) (gCons (gName j) gNil)), fun s H C cl fp => pg_tup hc (pgs_cons (pg_name hN hi (hx cl C) (hf s H C cl fp)) (pgs_cons (pg_name hN hj (hx2 cl C) (hf2 s H C cl fp)) pgs_nil (h4 _)) (h3 _)) (h1 _) (h2 _), fun M' cs σ H v d Q pd S r k => by
    obtain ⟨x, y, rfl⟩ := pd
    obtain ⟨a, xs, rfl, hq, rr⟩ := r_tup r
    have hl := rr.length
    match xs, rr, hl with
    | [u, w], rr, _ =>
      unfold Rs at rr
      obtain ⟨ru, rr⟩ := rr
      unfold Rs at rr
      refine ⟨a, [u, w], rfl, hq, rfl, u, [w], rfl, w, [], rfl, rfl, ?_⟩
      refine k _ (wipe_same (by simp [wipe_length]) fun l hl => ?_) ((S.set i ru).set j rr.1)
      have h5 : j ≠ l := fun q => hl (q ▸ hjv)
      have h6 : i ≠ l := fun q => hl (q ▸ hiv)
      rw [List.getElem?_set_ne h5, List.getElem?_set_ne h6, wipe_get]
      simp [hl]⟩
/-- the elements, turn by turn -/
theorem lc_core' {scope : Scope} {own : List (Str × Nat)} {iter elt : Expr} {ifs : List Expr} {ef : D → DE} {P : D → Prop} (hi : EI X M e cs tg iter ds cs1) (ht : CTg X scope (own.map (·.2)) e tg ef P) (hP : ∀ d ∈ ds, P d) (S mid : Nat → Cs) (keep : Nat → Bool) (out : Nat → D) (hS0 : S 0 = cs1) (hSd : ∀ i, dom (S i) = dom cs1) (hmd : ∀ i, dom (mid i) = dom cs1) (hn : ds.length ≤ 100000)
    (tt : TT) (htt : ∀ (s : Shared) (H : Hp) (C : Addr) (cl : List (Str × Addr)) (fp : List Addr), PTs (blkOf X scope s H C cl fp) ifs tt)
    (turnT : ∀ (i : Nat) (d : D), ds[i]? = some d → ∀ (M' : Addr → Prop), (∀ a, M a → M' a) → ∀ (σ : L2.St) (H : Hp) (Q : Bool → Hp → Prop), Sit X.K X.mg M' σ H (ef d) (S i) → (∀ H', Sit X.K X.mg M' σ H' (ef d) (mid i) → Ext (dom cs1) H H' → Q (keep i) H') → tt σ H Q)
    (turnE : ∀ (i : Nat) (d : D), ds[i]? = some d → keep i = true → ∀ (M' : Addr → Prop), (∀ a, M a → M' a) → ∀ (s : Shared) (H : Hp) (C : Addr) (cl : List (Str × Addr)) (fp : List Addr), EE (blkOf X scope s H C cl fp) M' (ef d) (mid i) elt (out i) (S (i + 1)))
    (turnN : ∀ (i : Nat) (d : D), ds[i]? = some d → keep i = false → S (i + 1) = mid i)
    (hc : X.calm = true) (hN : X.N.Nodup) (ok : BlkOk X.N X.env.scope scope own) (hs : ∀ x, foldedSetIterable iter X.env x = pure x) :
    ∃ t, PE X (.ListComp elt [⟨tg, iter, ifs, 0⟩] scope pos) t ∧ (∀ (σ : L2.St) (H : Hp) (Q : VK), Sit X.K X.mg M σ H e cs → (∀ v H', Sit X.K X.mg M σ H' e (S ds.length) → Ext (dom cs) H H' → R X.K X.mg M H' v (.lst (outs keep out ds.length)) → Q v H') → t σ H Q) ∧
      ∀ (y : Str) (py spos : Pos) (i : Nat) , X.N[i]? = some y → X.env.scope.names.lookup y = some .local → swapsWith (.ListComp elt [⟨tg, iter, ifs, 0⟩] scope pos) (some (.Name y py)) spos.line X.env = pure true →
        PS X (.Assign [.Name y py] (.ListComp elt [⟨tg, iter, ifs, 0⟩] scope pos) spos) (tAsg t (gName i)) := by
  obtain ⟨dmI, wi, hpi, ki⟩ := hi
  obtain ⟨g, hg, hgk⟩ := ht.k
  let teB : TE := fun σ H Q => ∀ (s : Shared) (H0 : Hp) (C : Addr) (cl : List (Str × Addr)) (fp : List Addr), wE (blkOf X scope s H0 C cl fp) elt σ H Q
  have heB : ∀ (s : Shared) (H : Hp) (C : Addr) (cl : List (Str × Addr)) (fp : List Addr), PE (X.blk s H scope (compEnvC scope cl C X.env) fp) elt teB := fun s H C cl fp => ⟨fun pins s1 σ H1 Q I h => h s H C cl fp pins s1 I⟩
  refine ⟨_, pe_lc (own := own) (g := g) (tt := tt) (te := teB) hc hN hpi ok hg htt heB hs, fun σ H0 Q St k => ?_, fun y py spos i h1 h2 h3 => ps_setLc hc hN h1 h2 h3 hpi ok hg htt heB hs⟩
  refine ki σ H0 _ St fun J H1 S1 x1 wk Dl hD => ?_
  let M' : Addr → Prop := fun a => M a ∨ a = Dl
  have hM : ∀ a, M a → M' a := fun a h => .inl h
  have hDo : Dl ∉ dom cs1 := fun z => by
    obtain ⟨q, hq, rfl⟩ := List.mem_map.mp z
    exact (S1.cel q hq).2.ne hD
  let Pv : Nat → Hp → Prop := fun i H => ∃ acc, H Dl = some (.lst acc) ∧ Rs X.K X.mg M' H acc (outs keep out i) ∧ Sit X.K X.mg M' (L2.wipe σ (own.map (·.2))) H (wipeD e (own.map (·.2))) (S i) ∧ Ext (dom cs1) H1 H
  have wk' : ∀ i H, Pv i H → (∀ (i : Nat) (d : D), ds[i]? = some d → J.go i H ∧ ∀ x H3, J.yld i H x H3 → Ext [] H H3 ∧ R X.K X.mg M' H3 x d) ∧ J.stop ds.length H := fun i H p => by
    obtain ⟨acc, h1, h2, h3, h4⟩ := p
    refine wk M' H (fun a o nm h => ?_) h3.mt
    have hd : a ∉ dom cs1 := fun z => by
      obtain ⟨q, hq, rfl⟩ := List.mem_map.mp z
      exact nm (S1.cel q hq).1
    exact ⟨fun z => z.elim nm fun z => ne_of_none h hD z, h4 a o h hd⟩
  refine ⟨fun i m H => m = ds.length - i ∧ i ≤ ds.length ∧ Pv i H, ⟨ds.length, by simp, Nat.zero_le _, [], upd_same, Rs.nil, ?_, Ext.new hD⟩, ?_⟩
  · rw [hS0]; exact (S1.mark hD).wipe _
  rintro i mm H ⟨rfl, hil, pv⟩
  obtain ⟨w1, w2⟩ := wk' i H pv
  obtain ⟨acc, h1, h2, h3, h4⟩ := pv
  by_cases hlt : i < ds.length
  · obtain ⟨d, hd⟩ : ∃ d, ds[i]? = some d := ⟨_, List.getElem?_eq_getElem hlt⟩
    obtain ⟨g1, g2⟩ := w1 i d hd
    refine .inr ⟨g1, Pv (i + 1), fun H' p' => ⟨ds.length - (i + 1), by omega, rfl, hlt, p'⟩, fun x H3 y => ?_⟩
    obtain ⟨x3, r3⟩ := g2 x H3 y
    have S3 := h3.ex x3
    refine hgk M' (S i) σ H3 x d _ (hP d (List.mem_of_getElem? hd)) S3 r3 fun σ' hσ S4 => ⟨hσ, turnT i d hd M' hM σ' H3 _ S4 fun H4 S5 x5 => ?_⟩
    have hacc3 : H3 Dl = some (.lst acc) := x3 Dl _ h1 (by simp)
    have hacc4 : H4 Dl = some (.lst acc) := x5 Dl _ hacc3 hDo
    have h24 : Rs X.K X.mg M' H4 acc (outs keep out i) := by
      have q := Rs.ext (M' := M') (fun a o _ h => x3 a o h (by simp)) (fun _ n _ => n) _ h2
      exact S4.rs (by rw [hSd i]; exact x5) q
    have x4 : Ext (dom cs1) H1 H4 := (h4.trans (x3.mono (by simp))).trans x5
    have Sw : Sit X.K X.mg M' (L2.wipe σ (own.map (·.2))) H4 (wipeD e (own.map (·.2))) (mid i) := by
      exact S3.step (by rw [hmd i, hSd i]) (by rw [hSd i]; exact x5) S5.mt S5.cel
    cases hk : keep i with
    | true =>
      rw [if_pos rfl]
      intro s0 H0' C cl fp
      refine (turnE i d hd hk M' hM s0 H0' C cl fp).k σ' H4 _ S5 fun v H5 S6 x6 r6 => ?_
      rw [hmd i] at x6
      have hacc5 : H5 Dl = some (.lst acc) := x6 Dl _ hacc4 hDo
      have hl : acc.length ≤ i := by rw [h24.length]; exact outs_len
      have h25 : Rs X.K X.mg M' H5 acc (outs keep out i) := S5.rs (by rw [hmd i]; exact x6) h24
      have Sw5 : Sit X.K X.mg M' (L2.wipe σ (own.map (·.2))) H5 (wipeD e (own.map (·.2))) (S (i + 1)) := Sw.step (by rw [hmd i, hSd (i + 1)]) (by rw [hmd i]; exact x6) S6.mt S6.cel
      refine ⟨acc, hacc5, Nat.lt_of_le_of_lt hl (Nat.lt_of_lt_of_le hlt (Nat.le_trans hn (by decide))), acc ++ [v], upd_same, ?_, Sw5.upd (.inr rfl) (by rw [hSd]; exact hDo), fun a o h n => ?_⟩
      · rw [outs_yes hk]
        exact Rs.ext (M' := M') (fun a o nm h => by rw [upd_ne (fun z => nm (.inr z))]; exact h) (fun _ n _ => n) _ (h25.append (.cons r6 .nil))
      · rw [upd_ne (ne_of_none h hD)]
        exact x6 a o (x4 a o h n) n
    | false =>
      rw [if_neg (by simp)]
      refine ⟨acc, hacc4, by rw [outs_no hk]; exact h24, ?_, x4⟩
      rw [turnN i d hd hk]; exact Sw
  · have e0 : i = ds.length := by omega
    subst e0
    refine .inl ⟨w2, k _ H ?_ (x1.trans (by rw [← dmI]; exact h4)) ?_⟩
    · exact S1.step (hSd _) h4 (fun a m => h3.mt a (.inl m)) fun q hq => ⟨(by
        have hq' : q.1 ∈ dom cs1 := by rw [← hSd ds.length]; exact List.mem_map_of_mem (f := (·.1)) hq
        obtain ⟨q0, h0, e0⟩ := List.mem_map.mp hq'
        have := (S1.cel q0 h0).1
        rwa [e0] at this), (h3.cel q hq).2.ext (fun a o _ h => h) (fun a n _ z => n (.inl z)) fun o h => h⟩
    · unfold R
      exact ⟨Dl, acc, rfl, new_m S1.mt hD, h1, Rs.ext (fun a o _ h => h) (fun a n _ z => n (.inl z)) _ h2⟩
/-- [elt for tg in iter], each element on its own -/
theorem e_lc {scope : Scope} (own : List (Str × Nat)) {iter elt : Expr} {ef : D → DE} {P : D → Prop} (f : D → D) (hi : EI X M e cs tg iter ds cs1) (ht : CTg X scope (own.map (·.2)) e tg ef P) (hP : ∀ d ∈ ds, P d) (hn : ds.length ≤ 100000)
    (turn : ∀ d ∈ ds, ∀ (M' : Addr → Prop), (∀ a, M a → M' a) → ∀ (s : Shared) (H : Hp) (C : Addr) (cl : List (Str × Addr)) (fp : List Addr), EE (blkOf X scope s H C cl fp) M' (ef d) cs1 elt (f d) cs1)
    (ok : BlkOk X.N X.env.scope scope own) (hN : X.N.Nodup) (hc : X.calm = true := by rfl) (hs : ∀ x, foldedSetIterable iter X.env x = pure x := by intro _; rfl) :
    EE X M e cs (.ListComp elt [⟨tg, iter, [], 0⟩] scope pos) (.lst (ds.map f)) cs1 where
  dm := hi.dm
  k := fun σ H Q S k => by
    have out : ∀ (i : Nat) (d : D), ds[i]? = some d → f ((ds[i]?).getD .non) = f d := fun i d h => by rw [h]; rfl
    obtain ⟨t, h1, h2, _⟩ := lc_core' (pos := pos) (elt := elt) (ifs := []) hi ht hP (fun _ => cs1) (fun _ => cs1) (fun _ => true) (fun i => f ((ds[i]?).getD .non)) rfl (fun _ => rfl) (fun _ => rfl) hn tYes (fun _ _ _ _ _ => pts_nil) (fun i d hd M' hM σ H Q S k => k H S (Ext.refl _ _))
      (fun i d hd _ M' hM s H C cl fp => by rw [out i d hd]; exact turn d (List.mem_of_getElem? hd) M' hM s H C cl fp) (fun i d hd h => by cases h) hc hN ok hs
    refine we_of h1 (h2 σ H Q S fun v H' S' x' r' => k v H' S' x' ?_)
    rw [outs_map] at r'
    exact r'
/-- [elt for tg in iter if c], test and element on their own -/
theorem e_lcF {scope : Scope} (own : List (Str × Nat)) {iter elt c : Expr} {ef : D → DE} {P : D → Prop} (q : D → Bool) (f : D → D) (hi : EI X M e cs tg iter ds cs1) (ht : CTg X scope (own.map (·.2)) e tg ef P) (hP : ∀ d ∈ ds, P d) (hn : ds.length ≤ 100000)
    (test : ∀ d ∈ ds, ∀ (M' : Addr → Prop), (∀ a, M a → M' a) → ∀ (s : Shared) (H : Hp) (C : Addr) (cl : List (Str × Addr)) (fp : List Addr), ET (blkOf X scope s H C cl fp) M' (ef d) cs1 c (q d) cs1)
    (turn : ∀ d ∈ ds, q d = true → ∀ (M' : Addr → Prop), (∀ a, M a → M' a) → ∀ (s : Shared) (H : Hp) (C : Addr) (cl : List (Str × Addr)) (fp : List Addr), EE (blkOf X scope s H C cl fp) M' (ef d) cs1 elt (f d) cs1)
    (ok : BlkOk X.N X.env.scope scope own) (hN : X.N.Nodup) (hc : X.calm = true := by rfl) (hs : ∀ x, foldedSetIterable iter X.env x = pure x := by intro _; rfl) :
    EE X M e cs (.ListComp elt [⟨tg, iter, [c], 0⟩] scope pos) (.lst ((ds.filter q).map f)) cs1 where
  dm := hi.dm
  k := fun σ H Q S k => by
    have out : ∀ (i : Nat) (d : D), ds[i]? = some d → (ds[i]?).getD .non = d := fun i d h => by rw [h]; rfl
    obtain ⟨t, h1, h2, _⟩ := lc_core' (pos := pos) (elt := elt) (ifs := [c]) hi ht hP (fun _ => cs1) (fun _ => cs1) (fun i => q ((ds[i]?).getD .non)) (fun i => f ((ds[i]?).getD .non)) rfl (fun _ => rfl) (fun _ => rfl) hn
      (fun σ H Q => ∀ (s : Shared) (H0 : Hp) (C : Addr) (cl : List (Str × Addr)) (fp : List Addr), wT (blkOf X scope s H0 C cl fp) c σ H Q) (fun s H C cl fp => pts_one ⟨fun pins s1 σ H1 Q I h => h s H C cl fp pins s1 I⟩)
      (fun i d hd M' hM σ H Q S k s0 H0 C cl fp => by
        rw [out i d hd] at k
        exact (test d (List.mem_of_getElem? hd) M' hM s0 H0 C cl fp).k σ H Q S k)
      (fun i d hd hk M' hM s H C cl fp => by
        rw [out i d hd] at hk ⊢
        exact turn d (List.mem_of_getElem? hd) hk M' hM s H C cl fp) (fun i d hd h => rfl) hc hN ok hs
    refine we_of h1 (h2 σ H Q S fun v H' S' x' r' => k v H' S' x' ?_)
    rw [outs_filter] at r'
    exact r'
end
end Od

set_option Elab.async false
set_option linter.all false
set_option maxRecDepth 100000
set_option maxHeartbeats 4000000
namespace Od
open PySem L2

/-! ### statements: P is wanted wherever the data stand so, behind the heaps of fr (each with what may change of it) -/
abbrev Frs := List (List Addr × Hp)
def Fr (fr : Frs) (H : Hp) : Prop := ∀ q ∈ fr, Ext q.1 q.2 H
def Lo (fr : Frs) (cs : Cs) : Prop := ∀ q ∈ fr, ∀ a ∈ dom cs, a ∈ q.1 ∨ q.2 a = none
def At (X : Cx) (M : Addr → Prop) (e : DE) (cs : Cs) (fr : Frs) (P : L2.St → Hp → Prop) : Prop :=
  ∀ σ H, Sit X.K X.mg M σ H e cs → Fr fr H → Lo fr cs → P σ H
section
variable {X : Cx} {M : Addr → Prop} {e e1 : DE} {cs cs1 cs2 : Cs} {fr : Frs} {D0 : Ends} {pos p pos' : Pos} {a b c ex : Expr} {rest st st2 : List Stmt} {d x y z : D} {ds : List D} {n : Str}
theorem ext_on {H H' : Hp} (x : Fr fr H) (l : Lo fr cs) (y : Ext (dom cs) H H') : Fr fr H' := fun f hf a o h n => y a o (x f hf a o h n) fun z => by
  rcases l f hf a z with q | q
  · exact n q
  · rw [h] at q; cases q
theorem lo_of (l : Lo fr cs) (h : dom cs1 = dom cs) : Lo fr cs1 := fun f hf a ha => l f hf a (by rw [← h]; exact ha)
theorem at_nil (h : At X M e cs fr D0.nx) : At X M e cs fr (wSs X [] D0) := fun σ H S x l => wss_of pss_nil (h σ H S x l)
theorem at_set (i : Nat) (ha : EE X M e cs ex d cs1) (k : At X M (e.set i (some d)) cs1 fr (wSs X rest D0)) (hN : X.N.Nodup) (hi : X.N[i]? = some n := by rfl) (hx : Loc X.env.scope n := by first | exact .inl rfl | exact .inr rfl)
    (hs : swapsWith ex (some (.Name n pos')) pos.line X.env = pure false := by rfl) (hf : X.fn n = true ∨ X.env.scope.names.lookup n = some .local := by first | exact .inl rfl | exact .inr rfl) : At X M e cs fr (wSs X (.Assign [.Name n pos'] ex pos :: rest) D0) := fun σ H S x l =>
  wss_of (pss_cons (ps_set hN hi hx pe_w hs hf) pss_w) (ha.k σ H _ S fun v H1 S1 x1 r1 => k _ H1 (S1.set i r1) (ext_on x l x1) (lo_of l ha.dm))
/-- a, b = x, y -/
theorem at_par {px py pt pt2 : Pos} {m : Str} {kt k2} (i j : Nat) (ha : EE X M e cs a x cs1) (hb : EE X M e cs1 b y cs2) (k : At X M ((e.set i (some x)).set j (some y)) cs2 fr (wSs X rest D0)) (hN : X.N.Nodup)
    (ps : ∀ ta, PA X [a, b] ta → PS X (.Assign [.Tuple [.Name n px, .Name m py] kt pt] (.Tuple [a, b] k2 pt2) pos) (tPar i j ta)) (hst : starEach [a, b] X.env = (false, eval a X.env) :: starEach [b] X.env := by rfl) (hst2 : starEach [b] X.env = (false, eval b X.env) :: starEach [] X.env := by rfl) :
    At X M e cs fr (wSs X (.Assign [.Tuple [.Name n px, .Name m py] kt pt] (.Tuple [a, b] k2 pt2) pos :: rest) D0) := fun σ H S x l => by
  have hab : EA X M e cs [a, b] [_, _] cs2 := a_cons ha (a_cons hb a_nil hst2) hst
  refine wss_of (pss_cons (ps _ pa_w) pss_w) (hab.k σ H _ S fun vs H1 S1 x1 r1 => ?_)
  match vs, r1 with
  | [v, w], r1 =>
    unfold Rs at r1
    obtain ⟨rv, r1⟩ := r1
    unfold Rs at r1
    exact ⟨v, w, rfl, k _ H1 ((S1.set i rv).set j r1.1) (ext_on x l x1) (lo_of l hab.dm)⟩
/-- a, b = t, a tuple of two -/
theorem at_unp2 {px py pt : Pos} {m : Str} {kt} (i j : Nat) (ha : EE X M e cs ex (.tup [x, y]) cs1) (k : At X M ((e.set i (some x)).set j (some y)) cs1 fr (wSs X rest D0)) (hN : X.N.Nodup) (hi : X.N[i]? = some n := by rfl) (hj : X.N[j]? = some m := by rfl)
    (hx : Loc X.env.scope n := by first | exact .inl rfl | exact .inr rfl) (hx2 : Loc X.env.scope m := by first | exact .inl rfl | exact .inr rfl) (hf : X.fn n = true ∨ X.env.scope.names.lookup n = some .local := by first | exact .inl rfl | exact .inr rfl) (hf2 : X.fn m = true ∨ X.env.scope.names.lookup m = some .local := by first | exact .inl rfl | exact .inr rfl) (hc : X.calm = true := by rfl)
    (hs : swapsWithSole [.Tuple [.Name n px, .Name m py] kt pt] ex pos.line X.env = pure false := by rfl) (hw : swappedStores [.Tuple [.Name n px, .Name m py] kt pt] ex X.env = pure none := by rfl)
    (h0 : (assignEach [.Tuple [.Name n px, .Name m py] kt pt] X.env).map (·.2) = [assign (.Tuple [.Name n px, .Name m py] kt pt) X.env] := by rfl)
    (h1 : ∀ E : Env, (assignEach [.Name n px, .Name m py] E).length = 2 := by intro _; rfl) (h2 : ∀ E : Env, (assignEach [.Name n px, .Name m py] E).findIdx? (·.1) = none := by intro _; rfl)
    (h3 : ∀ E : Env, (assignEach [.Name n px, .Name m py] E).map (·.2) = assign (.Name n px) E :: (assignEach [.Name m py] E).map (·.2) := by intro _; rfl) (h4 : ∀ E : Env, (assignEach [.Name m py] E).map (·.2) = assign (.Name m py) E :: (assignEach [] E).map (·.2) := by intro _; rfl) :
    At X M e cs fr (wSs X (.Assign [.Tuple [.Name n px, .Name m py] kt pt] ex pos :: rest) D0) := fun σ H S x l =>
  wss_of (pss_cons (ps_asg pe_w (pg_tup hc (pgs_cons (pg_name hN hi hx hf) (pgs_cons (pg_name hN hj hx2 hf2) pgs_nil (h4 _)) (h3 _)) (h1 _) (h2 _)) hs hw h0) pss_w) (ha.k σ H _ S fun v H1 S1 x1 r1 => by
    obtain ⟨ad, xs, rfl, hq, rr⟩ := r_tup r1
    have hl := rr.length
    match xs, rr, hl with
    | [u, w], rr, _ =>
      unfold Rs at rr
      obtain ⟨ru, rr⟩ := rr
      unfold Rs at rr
      exact ⟨ad, [u, w], rfl, hq, rfl, u, [w], rfl, w, [], rfl, rfl, k _ H1 ((S1.set i ru).set j rr.1) (ext_on x l x1) (lo_of l ha.dm)⟩)
theorem at_expr (ha : EE X M e cs ex d cs1) (k : At X M e cs1 fr (wSs X rest D0)) (hs : swapsWith ex none pos.line X.env = pure false := by rfl) : At X M e cs fr (wSs X (.Expr ex pos :: rest) D0) := fun σ H S x l =>
  wss_of (pss_cons (ps_expr pe_w hs) pss_w) (ha.k σ H _ S fun v H1 S1 x1 r1 => k _ H1 S1 (ext_on x l x1) (lo_of l ha.dm))
theorem at_ret (ha : EE X M e cs ex d cs1) (k : ∀ σ H v, Sit X.K X.mg M σ H e cs1 → Fr fr H → R X.K X.mg M H v d → D0.rt v H) : At X M e cs fr (wSs X (.Return (some ex) pos :: rest) D0) := fun σ H S x l =>
  wss_of (pss_cons (ps_ret pe_w) pss_w) (ha.k σ H _ S fun v H1 S1 x1 r1 => k σ H1 v S1 (ext_on x l x1) r1)
theorem at_if {b0 : Bool} (hc : ET X M e cs c b0 cs1) (ht : b0 = true → At X M e cs1 fr (wSs X st { D0 with nx := wSs X rest D0 })) (hf : b0 = false → At X M e cs1 fr (wSs X st2 { D0 with nx := wSs X rest D0 })) : At X M e cs fr (wSs X (.If c st st2 pos :: rest) D0) := fun σ H S x l =>
  wss_of (pss_cons (ps_if pt_w pss_w pss_w) pss_w) (hc.k σ H _ S fun H1 S1 x1 => by
    cases b0 with
    | true => rw [if_pos rfl]; exact ht rfl _ H1 S1 (ext_on x l x1) (lo_of l hc.dm)
    | false => rw [if_neg (by simp)]; exact hf rfl _ H1 S1 (ext_on x l x1) (lo_of l hc.dm))
theorem at_pass (k : At X M e cs fr (wSs X rest D0)) : At X M e cs fr (wSs X (.Pass pos :: rest) D0) := fun σ H S x l => wss_of (pss_cons ps_pass pss_w) (k σ H S x l)
theorem at_break (k : At X M e cs fr D0.bk) : At X M e cs fr (wSs X (.Break pos :: rest) D0) := fun σ H S x l => wss_of (pss_cons ps_break pss_w) (k σ H S x l)
theorem at_cont (k : At X M e cs fr D0.ct) : At X M e cs fr (wSs X (.Continue pos :: rest) D0) := fun σ H S x l => wss_of (pss_cons ps_continue pss_w) (k σ H S x l)
/-- what holds between two turns: for some ghost value -/
def Inv' (X : Cx) (M : Addr → Prop) (fr : Frs) {α : Type} (P : α → Prop) (E : α → DE) (C : α → Cs) : L2.St → Hp → Prop := fun σ H => ∃ g, P g ∧ Sit X.K X.mg M σ H (E g) (C g) ∧ Fr fr H
/-- the target of a loop -/
structure LTg (X : Cx) (tg : Expr) (ef : DE → D → DE) (P : D → Prop) : Prop where
  k : ∃ g, PG X tg g ∧ ∀ (M : Addr → Prop) (e : DE) (cs : Cs) (σ : L2.St) (H : Hp) (x : V) (d : D) (Q : L2.St → Hp → Prop), P d → Sit X.K X.mg M σ H e cs → R X.K X.mg M H x d → (∀ σ', Sit X.K X.mg M σ' H (ef e d) cs → Q σ' H) → g x σ H Q
theorem ltg_name (j : Nat) (hN : X.N.Nodup) (hj : X.N[j]? = some n := by rfl) (hx : Loc X.env.scope n := by first | exact .inl rfl | exact .inr rfl) (hf : X.fn n = true ∨ X.env.scope.names.lookup n = some .local := by first | exact .inl rfl | exact .inr rfl) :
    LTg X (.Name n p) (fun e d => e.set j (some d)) (fun _ => True) := ⟨gName j, pg_name hN hj hx hf, fun M e cs σ H x d Q _ S r k => k _ (S.set j r)⟩
theorem ltg_pair {px py pt : Pos} {m : Str} {kt} (i j : Nat) (hN : X.N.Nodup) (hi : X.N[i]? = some n := by rfl) (hj : X.N[j]? = some m := by rfl)
    (hx : Loc X.env.scope n := by first | exact .inl rfl | exact .inr rfl) (hx2 : Loc X.env.scope m := by first | exact .inl rfl | exact .inr rfl) (hf : X.fn n = true ∨ X.env.scope.names.lookup n = some .local := by first | exact .inl rfl | exact .inr rfl) (hf2 : X.fn m = true ∨ X.env.scope.names.lookup m = some .local := by first | exact .inl rfl | exact .inr rfl) (hc : X.calm = true := by rfl)
    (h1 : ∀ E : Env, (assignEach [.Name n px, .Name m py] E).length = 2 := by intro _; rfl) (h2 : ∀ E : Env, (assignEach [.Name n px, .Name m py] E).findIdx? (·.1) = none := by intro _; rfl)
    (h3 : ∀ E : Env, (assignEach [.Name n px, .Name m py] E).map (·.2) = assign (.Name n px) E :: (assignEach [.Name m py] E).map (·.2) := by intro _; rfl) (h4 : ∀ E : Env, (assignEach [.Name m py] E).map (·.2) = assign (.Name m py) E :: (assignEach [] E).map (·.2) := by intro _; rfl) :
    LTg X (.Tuple [.Name n px, .Name m py] kt pt) (fun e d => match d with | .tup [x, y] => (e.set i (some x)).set j (some y) | _ => e) (fun d => ∃ x y, d = .tup [x, y]) :=
  ⟨_, pg_tup hc (pgs_cons (pg_name hN hi hx hf) (pgs_cons (pg_name hN hj hx2 hf2) pgs_nil (h4 _)) (h3 _)) (h1 _) (h2 _), fun M e cs σ H v d Q pd S r k => by
    obtain ⟨x, y, rfl⟩ := pd
    obtain ⟨ad, xs, rfl, hq, rr⟩ := r_tup r
    have hl := rr.length
    match xs, rr, hl with
    | [u, w], rr, _ =>
      unfold Rs at rr
      obtain ⟨ru, rr⟩ := rr
      unfold Rs at rr
      exact ⟨ad, [u, w], rfl, hq, rfl, u, [w], rfl, w, [], rfl, rfl, k _ ((S.set i ru).set j rr.1)⟩⟩
/-- for tg in iter -/
theorem at_for {tg iter : Expr} {body : List Stmt} {ef : DE → D → DE} {Pd : D → Prop} {α : Nat → Type} (P : (i : Nat) → α i → Prop) (E : (i : Nat) → α i → DE) (C : (i : Nat) → α i → Cs) (hi : EI X M e cs tg iter ds cs1) (ht : LTg X tg ef Pd) (hP : ∀ d ∈ ds, Pd d) (g0 : α 0) (p0 : P 0 g0) (e0 : E 0 g0 = e) (c0 : C 0 g0 = cs1)
    (hdm : ∀ i g, P i g → dom (C i g) = dom cs1)
    (turn : ∀ (i : Nat) (d : D) (g : α i) (H1 : Hp), ds[i]? = some d → P i g → At X M (ef (E i g) d) (C i g) ((dom cs1, H1) :: fr) (wSs X body { D0 with nx := Inv' X M ((dom cs1, H1) :: fr) (P (i + 1)) (E (i + 1)) (C (i + 1)), ct := Inv' X M ((dom cs1, H1) :: fr) (P (i + 1)) (E (i + 1)) (C (i + 1)), bk := wSs X rest D0 }))
    (k : ∀ g, P ds.length g → At X M (E ds.length g) (C ds.length g) fr (wSs X rest D0)) (hc : X.calm = true := by rfl) (hp : PassesOwn (model X.prog X.w) X.A X.env X.xe := by first | exact PassesOwn.never | exact passes_of rfl) (hs : ∀ x, foldedSetIterable iter X.env x = pure x := by intro _; rfl) :
    At X M e cs fr (wSs X (.For tg iter body [] pos :: rest) D0) := fun σ H S x l => by
  obtain ⟨dmI, wi, hpi, ki⟩ := hi
  obtain ⟨g, hg, hgk⟩ := ht.k
  refine wss_of (pss_cons (ps_for hp hc hpi hg pss_w hs) pss_w) (ki σ H _ S fun J H1 S1 x1 wk => ?_)
  have lx : Lo fr cs1 := lo_of l dmI
  have kx : Fr fr H1 := ext_on x l x1
  have ly : Lo ((dom cs1, H1) :: fr) cs1 := fun f hf a ha => by
    rcases List.mem_cons.mp hf with rfl | hf
    · exact .inl ha
    · exact lx f hf a ha
  refine ⟨fun i m σ H => m = ds.length - i ∧ i ≤ ds.length ∧ Inv' X M ((dom cs1, H1) :: fr) (P i) (E i) (C i) σ H, ⟨ds.length, by simp, Nat.zero_le _, g0, p0, by rw [e0, c0]; exact S1, fun f hf => ?_⟩, ?_⟩
  · rcases List.mem_cons.mp hf with rfl | hf
    · exact Ext.refl _ _
    · exact kx f hf
  rintro i m σ2 H2 ⟨rfl, hil, gi, pg, S2, x2⟩
  have x3 : Ext (dom cs1) H1 H2 := x2 _ List.mem_cons_self
  obtain ⟨w1, w2⟩ := wk M H2 (fun a o nm h => ⟨nm, S1.keeps x3 a o nm h⟩) S2.mt
  have ly2 := lo_of ly (hdm _ _ pg)
  by_cases hlt : i < ds.length
  · obtain ⟨d, hd⟩ : ∃ d, ds[i]? = some d := ⟨_, List.getElem?_eq_getElem hlt⟩
    obtain ⟨q1, q2⟩ := w1 i d hd
    refine .inr ⟨q1, Inv' X M ((dom cs1, H1) :: fr) (P (i + 1)) (E (i + 1)) (C (i + 1)), fun σ' H' p' => ⟨ds.length - (i + 1), by omega, rfl, hlt, p'⟩, fun x H3 y => ?_⟩
    obtain ⟨x4, r4⟩ := q2 x H3 y
    have S3 := S2.ex x4
    exact hgk M _ _ σ2 H3 x d _ (hP d (List.mem_of_getElem? hd)) S3 r4 fun σ' S4 => turn i d gi H1 hd pg σ' H3 S4 (ext_on x2 ly2 (x4.mono (by simp))) ly2
  · have e9 : i = ds.length := by omega
    subst e9
    exact .inl ⟨w2, k gi pg σ2 H2 S2 (fun f hf => x2 f (List.mem_cons_of_mem _ hf)) (lo_of lx (hdm _ _ pg))⟩
theorem at_weak {f : List Addr × Hp} {P : L2.St → Hp → Prop} (h : At X M e cs fr P) : At X M e cs (f :: fr) P := fun σ H S x l => h σ H S (fun q hq => x q (List.mem_cons_of_mem _ hq)) fun q hq => l q (List.mem_cons_of_mem _ hq)
theorem at_inv {α : Type} {P : α → Prop} {E : α → DE} {C : α → Cs} (g : α) (pg : P g) (he : E g = e) (hc : C g = cs) : At X M e cs fr (Inv' X M fr P E C) := fun σ H S x l => ⟨g, pg, by rw [he, hc]; exact S, x⟩
/-- o.f = value, o an instance that may change -/
theorem at_fld {ad C : Addr} {cn m : Str} {ns : List Str} {o : Expr} {cs' : Cs} (hv : EE X M e cs ex d cs1) (ho : EE X M e cs1 a (.ref ad) cs1) (hm : X.mg cn = some (.ref C)) (hcl : Cls X.K C) (hn : NoAttr X.K C m) (hlen : ns.length < 900) (hin : (ad, MC.obj cn ns ds) ∈ cs1)
    {ns' : List Str} {ds' : List D} (hu : Upd1 ad (.obj cn ns ds) (.obj cn ns' ds') cs1 cs2) (hput : ∀ (x : V) (xs : List V), xs.length = ns.length → ∃ xs', putF m x (ns.zip xs) = ns'.zip xs' ∧ ns'.length = xs'.length ∧ ∀ (H : Hp), R X.K X.mg M H x d → Rs X.K X.mg M H xs ds → Rs X.K X.mg M H xs' ds')
    (k : At X M e cs2 fr (wSs X rest D0)) (hs : swapsWith ex (some (.Attribute a m pos')) pos.line X.env = pure false := by rfl) : At X M e cs fr (wSs X (.Assign [.Attribute a m pos'] ex pos :: rest) D0) := fun σ H S x l =>
  wss_of (pss_cons (ps_fld pe_w pe_w hs) pss_w) (hv.k σ H _ S fun v H1 S1 x1 r1 => ho.k σ H1 _ S1 fun w H2 S2 x2 r2 => by
    simp [R] at r2
    subst r2
    obtain ⟨mm, C', dx, xs, hm', h3, hl, rs⟩ := S2.cel _ hin
    rw [hm] at hm'; cases hm'
    have r1' := S1.r x2 r1
    refine ⟨ad, C, dx, ns.zip xs, rfl, h3, hcl, hn, by rw [List.length_zip]; omega, ?_⟩
    obtain ⟨xs', e1, e2, rr⟩ := hput v xs hl.symm
    rw [e1]
    have hnm : ∀ b o, ¬ M b → H2 b = some o → upd H2 ad (.ins C dx (ns'.zip xs')) b = some o := fun b o nb h => by rw [upd_ne (fun z => nb (by rw [z]; exact mm))]; exact h
    refine k σ _ ⟨fun b mb => ?_, S2.len, fun i d' q => ?_, fun q hq => ?_, ?_⟩ ?_ (lo_of l (hu.dm.trans hv.dm))
    · by_cases h : b = ad
      · subst h; rw [upd_same]; simp
      · rw [upd_ne h]; exact S2.mt b mb
    · obtain ⟨u, e3, r⟩ := S2.env i d' q
      exact ⟨u, e3, R.ext hnm (fun _ n _ => n) _ r⟩
    · rcases hu.of S2.nd q hq with rfl | ⟨q1, q2⟩
      · exact ⟨mm, C, dx, xs', hm, upd_same, e2, Rs.ext hnm (fun _ n _ => n) _ (rr H2 r1' rs)⟩
      · exact ⟨(S2.cel q q1).1, (S2.cel q q1).2.ext hnm (fun _ n _ => n) fun o h => by rw [upd_ne q2]; exact h⟩
    · rw [show cs2.map (·.1) = cs1.map (·.1) from hu.dm]; exact S2.nd
    · have l1 : Lo fr cs1 := lo_of l hv.dm
      have y := ext_on (ext_on x l x1) l1 x2
      refine ext_on y l1 fun b o h n => ?_
      rw [upd_ne (fun z => n (by rw [z]; exact List.mem_map_of_mem (f := (·.1)) hin))]; exact h)
end

/-! ### a def keeps its promise -/
section
variable {P : Program} {w : World} {K : PySem.W.Frag} {mg : Str → Option Value} {base : Heap} {ι : Type} {pre : ι → Prop} {args : ι → List D} {cs cs' : ι → Cs} {res : ι → D} {x qual n : Str} {st : Stmt} {f : Addr} {fd : FuncData} {N ps : List Str} {k : Nat}
theorem sit_start {M : Addr → Prop} {H : Hp} {vs : List V} {ds : List D} {c : Cs} (mt : ∀ a, M a → H a ≠ none) (r : Rs K mg M H vs ds) (hc : ∀ p ∈ c, M p.1 ∧ Cell K mg M H p.1 p.2) (nd : (dom c).Nodup) : Sit K mg M (L2.start N vs) H (ds.map some ++ List.replicate (N.length - ds.length) none) c where
  mt := mt
  len := by unfold L2.start; simp [r.length]
  env := fun i d q => by
    have hi : i < ds.length := by
      by_cases h : i < ds.length
      · exact h
      · rw [List.getElem?_append_right (by simp; omega)] at q
        rw [List.getElem?_replicate] at q
        split at q <;> cases q
    rw [List.getElem?_append_left (by simpa using hi)] at q
    have q' : ds[i]? = some d := by
      rw [List.getElem?_map] at q
      cases hq : ds[i]? with
      | none => rw [hq] at q; cases q
      | some d' => rw [hq] at q; exact Option.some.inj q
    obtain ⟨v, hv, rv⟩ := r.get q'
    refine ⟨v, ?_, rv⟩
    unfold L2.start
    rw [List.getElem?_append_left (by simp [r.length]; exact hi)]
    simp [hv]
  cel := hc
  nd := nd
/-- what a body is shown to do -/
def Body (P : Program) (w : World) (K : PySem.W.Frag) (mg : Str → Option Value) (base : Heap) (qual : Str) (st : Stmt) (f : Addr) (N : List Str) (np : Nat) (k : Nat) {ι : Type} (pre : ι → Prop) (args : ι → List D) (cs : ι → Cs) (res : ι → D) (cs' : ι → Cs) : Prop :=
  ∀ (cdv : Value) (A : Around) (outer : List Env) (s : Shared) (H0 : Hp) (E : XK) (i : ι) (M : Addr → Prop) (Q : VK), pre i → Room k (A.deeper (PyProof.Rows.envOfC qual (defScope st) s.heap.objs.size f cdv)) →
    (∀ v H', (∀ a, M a → H' a ≠ none) → Ext (dom (cs i)) H0 H' → (∀ p ∈ cs' i, M p.1 ∧ Cell K mg M H' p.1 p.2) → R K mg M H' v (res i) → Q v H') →
    At (cxOf (L2.CX P w) P w K mg base N qual (defScope st) f cdv A outer s H0 E) M ((args i).map some ++ List.replicate (N.length - (args i).length) none) (cs i) [(dom (cs i), H0)]
      (wSs (cxOf (L2.CX P w) P w K mg base N qual (defScope st) f cdv A outer s H0 E) (defBody st) { nx := fun _ H' => Q .non H', rt := Q })
theorem fnr_of (F : Fun K x qual st f fd) (S : FnScope N ps (defScope st)) (hb : Binds K fd ps []) (hl : ∀ i, (args i).length = ps.length) (body : Body P w K mg base qual st f N ps.length k pre args cs res cs') : FnR P w K mg base (L2.CX P w) (k + 1) f (fnSp K mg pre args cs res cs') := by
  have h : FnOk P w K mg base (L2.CX P w) (k + 1) f fd ps (fnSp K mg pre args cs res cs') := F.okX S (fun vs H Q E h => by
    obtain ⟨M, i, _, _, r, _⟩ := h
    rw [r.length, hl]) fun cdv A outer s H vs Q E hr h => by
    obtain ⟨M, i, hp, mt, r, hc, nd, kq⟩ := h
    refine ⟨_, pss_w, ?_⟩
    refine body cdv A outer s H E i M Q hp hr kq _ _ (sit_start mt r hc nd) (fun q hq => ?_) fun q hq a ha => ?_
    · rcases List.mem_singleton.mp hq with rfl
      exact Ext.refl _ _
    · rcases List.mem_singleton.mp hq with rfl
      exact .inl ha
  have h2 := h.raw (ds := []) (dvs := []) hb .nil
  simpa using h2
theorem dfn_of (F : Fun K x qual st f fd) (hm : mg n = some (.ref f)) (S : FnScope N ps (defScope st)) (hb : Binds K fd ps []) (hl : ∀ i, (args i).length = ps.length) (body : Body P w K mg base qual st f N ps.length k pre args cs res cs') : Dfn P w K mg base n (k + 1) (fnSp K mg pre args cs res cs') :=
  ⟨f, hm, F.kp, fnr_of F S hb hl body⟩
/-- the end of a body -/
theorem at_done {X : Cx} {M M0 : Addr → Prop} {e : DE} {c0 c1 c2 : Cs} {H0 : Hp} {ex : Expr} {d : D} {pos : Pos} {rest : List Stmt} {D0 : Ends} {fr : Frs} {A0 : List Addr} {d' : D} (ha : EE X M e c0 ex d c1) (hfr : (A0, H0) ∈ fr) (hM : ∀ a, M0 a → M a) (hc : ∀ p ∈ c2, p ∈ c1) (hMc : ∀ p ∈ c2, M0 p.1) (hd : d = d')
    (kq : ∀ v H', (∀ a, M0 a → H' a ≠ none) → Ext A0 H0 H' → (∀ p ∈ c2, M0 p.1 ∧ Cell X.K X.mg M0 H' p.1 p.2) → R X.K X.mg M0 H' v d' → D0.rt v H') : At X M e c0 fr (wSs X (.Return (some ex) pos :: rest) D0) :=
  at_ret ha fun σ H v S x r => kq v H (fun a m => S.mt a (hM a m)) (x _ hfr) (fun p hp => ⟨hMc p hp, (S.cel p (hc p hp)).2.ext (fun a o _ h => h) (fun a n _ z => n (hM a z)) fun o h => h⟩) (hd ▸ R.ext (fun a o _ h => h) (fun a n _ z => n (hM a z)) _ r)
/-- the end of a body without things of its own -/
theorem at_end {X : Cx} {M : Addr → Prop} {e : DE} {c0 c1 : Cs} {H0 : Hp} {ex : Expr} {d : D} {pos : Pos} {rest : List Stmt} {D0 : Ends} {fr : Frs} {A0 : List Addr} {d' : D} (ha : EE X M e c0 ex d c1) (hd : d = d') (hfr : (A0, H0) ∈ fr)
    (kq : ∀ v H', (∀ a, M a → H' a ≠ none) → Ext A0 H0 H' → (∀ p ∈ c1, M p.1 ∧ Cell X.K X.mg M H' p.1 p.2) → R X.K X.mg M H' v d' → D0.rt v H') : At X M e c0 fr (wSs X (.Return (some ex) pos :: rest) D0) :=
  at_ret ha fun σ H v S x r => kq v H S.mt (x _ hfr) S.cel (hd ▸ r)
end
end Od

set_option Elab.async false
set_option linter.all false
set_option maxRecDepth 100000
set_option maxHeartbeats 4000000
namespace Od
open PySem L2

/-! ### operations on data -/
section
variable {X : Cx} {M : Addr → Prop} {H : Hp} {ds es : List D} {d x y z : D}
theorem bd_add {i j : Int} : BinD X .Add (.int i) (.int j) (.int (i + j)) := ⟨_, op_add, fun M H v u Q mt hv hu k => by
  simp only [R] at hv hu; exact ⟨i, j, hv, hu, k _ H (Ext.refl _ _) (by simp [R])⟩⟩
theorem bd_sub {i j : Int} : BinD X .Sub (.int i) (.int j) (.int (i - j)) := ⟨_, op_sub, fun M H v u Q mt hv hu k => by
  simp only [R] at hv hu; exact ⟨i, j, hv, hu, k _ H (Ext.refl _ _) (by simp [R])⟩⟩
theorem bd_mulL {i j : Int} (h : -(2 ^ 64) < i ∧ i < 2 ^ 64) : BinD X .Mult (.int i) (.int j) (.int (i * j)) := ⟨_, op_mul, fun M H v u Q mt hv hu k => by
  simp only [R] at hv hu; exact ⟨i, j, hv, hu, .inl h, k _ H (Ext.refl _ _) (by simp [R])⟩⟩
theorem bd_mulR {i j : Int} (h : -(2 ^ 64) < j ∧ j < 2 ^ 64) : BinD X .Mult (.int i) (.int j) (.int (i * j)) := ⟨_, op_mul, fun M H v u Q mt hv hu k => by
  simp only [R] at hv hu; exact ⟨i, j, hv, hu, .inr h, k _ H (Ext.refl _ _) (by simp [R])⟩⟩
theorem bd_mod {i j : Int} (h : 0 < j) : BinD X .Mod (.int i) (.int j) (.int (i % j)) := ⟨_, op_mod, fun M H v u Q mt hv hu k => by
  simp only [R] at hv hu; exact ⟨i, j, hv, hu, h, k _ H (Ext.refl _ _) (by simp [R])⟩⟩
theorem bd_div {i j : Int} (h : 0 < j ∧ j.natAbs.log2 < 9000) : BinD X .FloorDiv (.int i) (.int j) (.int (i / j)) := ⟨_, op_fdivW, fun M H v u Q mt hv hu k => by
  simp only [R] at hv hu; exact ⟨i, j, hv, hu, h, k _ H (Ext.refl _ _) (by simp [R])⟩⟩
theorem bd_pow {i j : Int} (h : 0 ≤ j ∧ j ≤ 1000000 ∧ i.natAbs < 2 ^ 64) : BinD X .Pow (.int i) (.int j) (.int (i ^ j.toNat)) := ⟨_, op_pow, fun M H v u Q mt hv hu k => by
  simp only [R] at hv hu; exact ⟨i, j, hv, hu, h, k _ H (Ext.refl _ _) (by simp [R])⟩⟩
theorem bd_addS {s t : Str} (h : s.length + t.length ≤ sizeLine) : BinD X .Add (.str s) (.str t) (.str (s ++ t)) := ⟨_, op_add_str, fun M H v u Q mt hv hu k => by
  simp only [R] at hv hu; exact ⟨s, t, hv, hu, h, k _ H (Ext.refl _ _) (by simp [R])⟩⟩
theorem bd_addL (h : ds.length + es.length ≤ 100000) : BinD X .Add (.lst ds) (.lst es) (.lst (ds ++ es)) := ⟨_, op_cat, fun M H v u Q mt hv hu k => by
  obtain ⟨a, xs, rfl, _, ha, ra⟩ := r_lst hv
  obtain ⟨b, ys, rfl, _, hb, rb⟩ := r_lst hu
  exact ⟨a, b, xs, ys, rfl, rfl, ha, hb, by rw [ra.length, rb.length]; exact Nat.le_trans h (by decide), fun p hp => k _ _ (Ext.new hp) (r_newl mt hp (ra.append rb))⟩⟩
theorem bd_addT (h : ds.length + es.length ≤ 100000) : BinD X .Add (.tup ds) (.tup es) (.tup (ds ++ es)) := ⟨_, op_catA, fun M H v u Q mt hv hu k => by
  obtain ⟨a, xs, rfl, ha, ra⟩ := r_tup hv
  obtain ⟨b, ys, rfl, hb, rb⟩ := r_tup hu
  refine ⟨a, b, xs, ys, rfl, rfl, ha, hb, by rw [ra.length, rb.length]; exact Nat.le_trans h (by decide), fun e => ?_, fun e e' => ?_, fun e e' p hp => k _ _ (Ext.new hp) (r_newt mt hp (ra.append rb))⟩
  · subst e
    have : ds = [] := List.eq_nil_of_length_eq_zero (by rw [← ra.length]; rfl)
    subst this
    exact k _ H (Ext.refl _ _) hu
  · subst e'
    have : es = [] := List.eq_nil_of_length_eq_zero (by rw [← rb.length]; rfl)
    subst this
    rw [List.append_nil] at k
    exact k _ H (Ext.refl _ _) hv⟩
theorem Rs.rep {K : PySem.W.Frag} {mg : Str → Option Value} {xs : List V} (r : Rs K mg M H xs ds) : ∀ n : Nat, Rs K mg M H (List.replicate n xs).flatten (List.replicate n ds).flatten
  | 0 => Rs.nil
  | n + 1 => by
    rw [List.replicate_succ, List.replicate_succ, List.flatten_cons, List.flatten_cons]
    exact r.append (Rs.rep r n)
theorem bd_rep {i : Int} (h : ds.length * i.toNat ≤ 100000) (hi : -(2 ^ 63) ≤ i ∧ i < 2 ^ 63) : BinD X .Mult (.lst ds) (.int i) (.lst (List.replicate i.toNat ds).flatten) := ⟨_, op_rep, fun M H v u Q mt hv hu k => by
  obtain ⟨a, xs, rfl, _, ha, ra⟩ := r_lst hv
  simp only [R] at hu
  exact ⟨a, i, xs, rfl, hu, ha, hi.1, hi.2, by rw [ra.length]; exact Nat.le_trans h (by decide), fun p hp => k _ _ (Ext.new hp) (r_newl mt hp (ra.rep _))⟩⟩
theorem ud_neg {i : Int} : UnD X .USub (.int i) (.int (-i)) := ⟨_, un_neg, fun M H v Q mt hv k => by
  simp only [R] at hv; exact ⟨i, hv, k _ H (Ext.refl _ _) (by simp [R])⟩⟩

/-! comparisons -/
theorem cd_lt {i j : Int} : CmpD X .Lt (.int i) (.int j) (decide (i < j)) := ⟨_, op_lt, fun M H v u Q mt hv hu k => by
  simp only [R] at hv hu; exact ⟨i, j, hv, hu, k _ H (Ext.refl _ _) (by simp [R])⟩⟩
theorem cd_le {i j : Int} : CmpD X .LtE (.int i) (.int j) (decide (i ≤ j)) := ⟨_, op_le, fun M H v u Q mt hv hu k => by
  simp only [R] at hv hu; exact ⟨i, j, hv, hu, k _ H (Ext.refl _ _) (by simp [R])⟩⟩
theorem cd_gt {i j : Int} : CmpD X .Gt (.int i) (.int j) (decide (j < i)) := ⟨_, op_gt, fun M H v u Q mt hv hu k => by
  simp only [R] at hv hu; exact ⟨i, j, hv, hu, k _ H (Ext.refl _ _) (by simp [R])⟩⟩
theorem cd_ge {i j : Int} : CmpD X .GtE (.int i) (.int j) (decide (j ≤ i)) := ⟨_, op_ge, fun M H v u Q mt hv hu k => by
  simp only [R] at hv hu; exact ⟨i, j, hv, hu, k _ H (Ext.refl _ _) (by simp [R])⟩⟩
theorem cd_ltS {s t : Str} : CmpD X .Lt (.str s) (.str t) (decide (s.cps.toList < t.cps.toList)) := ⟨_, op_lt_str, fun M H v u Q mt hv hu k => by
  simp only [R] at hv hu; exact ⟨s, t, hv, hu, k _ H (Ext.refl _ _) (by simp [R])⟩⟩
/-- plain values -/
def flat : D → Option V
  | .non => some .non
  | .bl b => some (.bl b)
  | .int i => some (.int i)
  | .str s => some (.str s)
  | _ => none
def flats : List D → Option (List V)
  | [] => some []
  | d :: ds => (flat d).bind fun v => (flats ds).map (v :: ·)
theorem R.flat {K : PySem.W.Frag} {mg : Str → Option Value} {v w : V} : ∀ {d : D}, Od.flat d = some w → R K mg M H v d → v = w
  | .non, h, r => by simp only [R] at r; simp [Od.flat] at h; rw [r, ← h]
  | .bl _, h, r => by simp only [R] at r; simp [Od.flat] at h; rw [r, ← h]
  | .int _, h, r => by simp only [R] at r; simp [Od.flat] at h; rw [r, ← h]
  | .str _, h, r => by simp only [R] at r; simp [Od.flat] at h; rw [r, ← h]
  | .ref _, h, r => by simp [Od.flat] at h
  | .ty _, h, r => by simp [Od.flat] at h
  | .lst _, h, r => by simp [Od.flat] at h
  | .tup _, h, r => by simp [Od.flat] at h
  | .obj _ _ _, h, r => by simp [Od.flat] at h
  | .dic _ _, h, r => by simp [Od.flat] at h
  | .scr _, h, r => by simp [Od.flat] at h
  | .lam _, h, r => by simp [Od.flat] at h
  | .exc _ _ _ _, h, r => by simp [Od.flat] at h
theorem cd_eq {v w : V} (h1 : flat x = some v) (h2 : flat y = some w) (h : scal v w = true) : CmpD X .Eq x y (decide (v = w)) := ⟨_, op_eq, fun M H v' u' Q mt hv hu k => by
  obtain rfl := hv.flat h1
  obtain rfl := hu.flat h2
  exact ⟨h, k _ H (Ext.refl _ _) (by simp [R])⟩⟩
theorem cd_ne {v w : V} (h1 : flat x = some v) (h2 : flat y = some w) (h : scal v w = true) : CmpD X .NotEq x y (!decide (v = w)) := ⟨_, op_ne, fun M H v' u' Q mt hv hu k => by
  obtain rfl := hv.flat h1
  obtain rfl := hu.flat h2
  exact ⟨h, k _ H (Ext.refl _ _) (by simp [R])⟩⟩
theorem CmpD.eq {op : CmpOp} {b c : Bool} (h : CmpD X op x y b) (e : b = c) : CmpD X op x y c := e ▸ h
theorem cd_eqI {i j : Int} : CmpD X .Eq (.int i) (.int j) (decide (i = j)) := (cd_eq rfl rfl rfl).eq (by simp)
theorem cd_eqS {s t : Str} : CmpD X .Eq (.str s) (.str t) (decide (s = t)) := (cd_eq rfl rfl rfl).eq (by simp)
theorem cd_eqB {s t : Bool} : CmpD X .Eq (.bl s) (.bl t) (s == t) := (cd_eq rfl rfl rfl).eq (by cases s <;> cases t <;> rfl)
theorem cd_neI {i j : Int} : CmpD X .NotEq (.int i) (.int j) (!decide (i = j)) := (cd_ne rfl rfl rfl).eq (by simp)
theorem cd_neS {s t : Str} : CmpD X .NotEq (.str s) (.str t) (!decide (s = t)) := (cd_ne rfl rfl rfl).eq (by simp)
theorem cd_neB {s t : Bool} : CmpD X .NotEq (.bl s) (.bl t) (s != t) := (cd_ne rfl rfl rfl).eq (by cases s <;> cases t <;> rfl)
mutual
/-- nested plain data -/
def toPy : D → Option PyData
  | .non => some .none
  | .bl b => some (.bool b)
  | .int i => some (.int i)
  | .str s => some (.str s)
  | .lst ds => (toPys ds).map .list
  | .tup ds => (toPys ds).map .tuple
  | _ => none
def toPys : List D → Option (List PyData)
  | [] => some []
  | d :: ds => (toPy d).bind fun p => (toPys ds).map (p :: ·)
end
mutual
theorem dp_of {K : PySem.W.Frag} {mg : Str → Option Value} : ∀ {d : D} {v : V} {p : PyData}, toPy d = some p → R K mg M H v d → Dp K H v p
  | .non, v, p, h, r => by simp only [R] at r; simp only [toPy, Option.some.injEq] at h; subst r h; exact .non
  | .bl _, v, p, h, r => by simp only [R] at r; simp only [toPy, Option.some.injEq] at h; subst r h; exact .bl _
  | .int _, v, p, h, r => by simp only [R] at r; simp only [toPy, Option.some.injEq] at h; subst r h; exact .int _
  | .str _, v, p, h, r => by simp only [R] at r; simp only [toPy, Option.some.injEq] at h; subst r h; exact .str _
  | .lst ds, v, p, h, r => by
    unfold R at r
    obtain ⟨a, xs, rfl, _, ha, rs⟩ := r
    unfold toPy at h
    cases q : toPys ds with
    | none => rw [q] at h; cases h
    | some ps =>
      rw [q] at h
      cases h
      exact .lst (.of ha) (dps_of q rs)
  | .tup ds, v, p, h, r => by
    unfold R at r
    obtain ⟨a, xs, rfl, ha, rs⟩ := r
    unfold toPy at h
    cases q : toPys ds with
    | none => rw [q] at h; cases h
    | some ps =>
      rw [q] at h
      cases h
      refine .tup ?_ (dps_of q rs)
      rcases ha with ⟨_, ha⟩ | ha
      · exact .inl (.inl ha)
      · exact .inr ha
  | .ref _, v, p, h, r => by simp [toPy] at h
  | .ty _, v, p, h, r => by simp [toPy] at h
  | .obj _ _ _, v, p, h, r => by simp [toPy] at h
  | .dic _ _, v, p, h, r => by simp [toPy] at h
  | .scr _, v, p, h, r => by simp [toPy] at h
  | .lam _, v, p, h, r => by simp [toPy] at h
  | .exc _ _ _ _, v, p, h, r => by simp [toPy] at h
theorem dps_of {K : PySem.W.Frag} {mg : Str → Option Value} : ∀ {ds : List D} {vs : List V} {ps : List PyData}, toPys ds = some ps → Rs K mg M H vs ds → DpAll K H vs ps
  | [], [], ps, h, r => by simp only [toPys, Option.some.injEq] at h; subst h; exact .nil
  | d :: ds, v :: vs, ps, h, r => by
    unfold Rs at r
    unfold toPys at h
    cases q1 : toPy d with
    | none => rw [q1] at h; cases h
    | some p1 =>
      rw [q1] at h
      cases q2 : toPys ds with
      | none => rw [q2] at h; cases h
      | some p2 =>
        rw [q2] at h
        cases h
        exact .cons (dp_of q1 r.1) (dps_of q2 r.2)
  | [], _ :: _, _, _, r => by unfold Rs at r; exact r.elim
  | _ :: _, [], _, _, r => by unfold Rs at r; exact r.elim
end
theorem cd_eqD {p q : PyData} (hu : X.A.units + 64 < cLine) (h1 : toPy x = some p) (h2 : toPy y = some q) (s1 : SeqAt.shaped p = true) (s2 : SeqAt.shaped q = true) : CmpD X .Eq x y (PyData.eqv p q) := ⟨_, op_eqD hu, fun M H v u Q mt hv hu k => ⟨p, q, dp_of h1 hv, dp_of h2 hu, s1, s2, k _ H (Ext.refl _ _) (by simp [R])⟩⟩
theorem cd_neD {p q : PyData} (hu : X.A.units + 64 < cLine) (h1 : toPy x = some p) (h2 : toPy y = some q) (s1 : SeqAt.shaped p = true) (s2 : SeqAt.shaped q = true) : CmpD X .NotEq x y (!PyData.eqv p q) := ⟨_, op_neD hu, fun M H v u Q mt hv hu k => ⟨p, q, dp_of h1 hv, dp_of h2 hu, s1, s2, k _ H (Ext.refl _ _) (by simp [R])⟩⟩
/-- one sign in a text -/
theorem cd_inC {c : Nat} {t : Str} : CmpD X .In (.str ⟨#[c]⟩) (.str t) (decide (c ∈ t.cps.toList)) := ⟨_, op_in_sign, fun M H v u Q mt hv hu k => by
  simp only [R] at hv hu; exact ⟨c, t, hv, hu, k _ H (Ext.refl _ _) (by simp [R])⟩⟩
theorem cd_notInC {c : Nat} {t : Str} : CmpD X .NotIn (.str ⟨#[c]⟩) (.str t) (!decide (c ∈ t.cps.toList)) := ⟨_, op_notIn_sign, fun M H v u Q mt hv hu k => by
  simp only [R] at hv hu; exact ⟨c, t, hv, hu, k _ H (Ext.refl _ _) (by simp [R])⟩⟩
theorem Rs.flats {K : PySem.W.Frag} {mg : Str → Option Value} : ∀ {ds : List D} {vs ws : List V}, flats ds = some ws → Rs K mg M H vs ds → vs = ws
  | [], [], ws, h, r => by simp [Od.flats] at h; rw [h]
  | d :: ds, v :: vs, ws, h, r => by
    unfold Rs at r
    unfold Od.flats at h
    cases q1 : Od.flat d with
    | none => rw [q1] at h; cases h
    | some w =>
      rw [q1] at h
      cases q2 : Od.flats ds with
      | none => rw [q2] at h; cases h
      | some w2 =>
        rw [q2] at h
        cases h
        rw [r.1.flat q1, Rs.flats q2 r.2]
  | [], _ :: _, _, _, r => by unfold Rs at r; exact r.elim
  | _ :: _, [], _, _, r => by unfold Rs at r; exact r.elim
/-- x in a list or tuple of plain things -/
theorem cd_inL {v : V} {ws : List V} (h1 : flat x = some v) (h2 : flats ds = some ws) (f1 : flatV v = true) (f2 : ws.all flatV = true) : CmpD X .In x (.lst ds) (inV v ws) := ⟨_, op_in_seq, fun M H v' u Q mt hv hu k => by
  obtain rfl := hv.flat h1
  obtain ⟨a, xs, rfl, _, ha, ra⟩ := r_lst hu
  obtain rfl := ra.flats h2
  exact ⟨a, xs, rfl, .inl (.of ha), f1, f2, k _ H (Ext.refl _ _) (by simp [R])⟩⟩
theorem cd_inT {v : V} {ws : List V} (h1 : flat x = some v) (h2 : flats ds = some ws) (f1 : flatV v = true) (f2 : ws.all flatV = true) : CmpD X .In x (.tup ds) (inV v ws) := ⟨_, op_in_seq, fun M H v' u Q mt hv hu k => by
  obtain rfl := hv.flat h1
  obtain ⟨a, xs, rfl, ha, ra⟩ := r_tup hu
  obtain rfl := ra.flats h2
  exact ⟨a, xs, rfl, .inr ha, f1, f2, k _ H (Ext.refl _ _) (by simp [R])⟩⟩
theorem eqV_str {s t : Str} : eqV (.str t) (.str s) = decide (s = t) := by
  show (t == s) = decide (s = t)
  by_cases h : s = t
  · subst h; simp
  · rw [decide_eq_false h]
    exact beq_eq_false_iff_ne.mpr fun q => h q.symm
/-- a text in a tuple of two, three texts -/
theorem cd_inT2 {s a b : Str} : CmpD X .In (.str s) (.tup [.str a, .str b]) (decide (s = a) || decide (s = b)) := (cd_inT rfl rfl rfl rfl).eq (by
  simp only [inV, List.any_cons, List.any_nil, eqV_str, Bool.or_false])
theorem cd_inT3 {s a b c : Str} : CmpD X .In (.str s) (.tup [.str a, .str b, .str c]) (decide (s = a) || (decide (s = b) || decide (s = c))) := (cd_inT rfl rfl rfl rfl).eq (by
  simp only [inV, List.any_cons, List.any_nil, eqV_str, Bool.or_false])

/-! subscripts, slices -/
theorem xd_lst {i : Int} {j : Nat} (hi : ixN ds.length i = some j) (hd : ds[j]? = some d) : IxD X (.lst ds) (.int i) d := ⟨_, ix_list, fun M H v u Q mt hv hu k => by
  obtain ⟨a, xs, rfl, _, ha, ra⟩ := r_lst hv
  simp only [R] at hu
  obtain ⟨w, hw, rw'⟩ := ra.get hd
  exact ⟨a, xs, i, w, rfl, hu, .of ha, by unfold atI; rw [ra.length, hi]; exact hw, k _ H (Ext.refl _ _) rw'⟩⟩
theorem xd_tup {i : Int} {j : Nat} (hi : ixN ds.length i = some j) (hd : ds[j]? = some d) : IxD X (.tup ds) (.int i) d := ⟨_, ix_tup, fun M H v u Q mt hv hu k => by
  obtain ⟨a, xs, rfl, ha, ra⟩ := r_tup hv
  simp only [R] at hu
  obtain ⟨w, hw, rw'⟩ := ra.get hd
  exact ⟨a, xs, i, w, rfl, hu, ha, by unfold atI; rw [ra.length, hi]; exact hw, k _ H (Ext.refl _ _) rw'⟩⟩
theorem xd_str {s : Str} {i : Int} {j c : Nat} (hl : s.length ≤ sizeLine) (hi : ixN s.cps.toList.length i = some j) (hd : s.cps.toList[j]? = some c) : IxD X (.str s) (.int i) (.str ⟨#[c]⟩) := ⟨_, ix_str, fun M H v u Q mt hv hu k => by
  simp only [R] at hv hu
  exact ⟨s, i, c, hv, hu, hl, by unfold atI; rw [hi]; exact hd, k _ H (Ext.refl _ _) (by simp [R])⟩⟩
theorem ixN_nat {n j : Nat} (h : j < n) : ixN n (j : Int) = some j := by
  unfold ixN; rw [if_pos (by omega), if_pos (by omega)]; simp
theorem ixN_int {n : Nat} {i : Int} (h0 : 0 ≤ i) (h : i < n) : ixN n i = some i.toNat := by
  unfold ixN; rw [if_pos h0, if_pos h]
def cutD (ds : List D) (lo hi : Option Int) : List D := (ds.drop (HT.sIx ds.length 0 lo)).take (HT.sIx ds.length ds.length hi - HT.sIx ds.length 0 lo)
theorem Rs.cut {K : PySem.W.Frag} {mg : Str → Option Value} {xs : List V} (r : Rs K mg M H xs ds) (lo hi : Option Int) : Rs K mg M H (cutV xs lo hi) (cutD ds lo hi) := by
  unfold cutV cutD
  rw [r.length]
  exact (r.drop _).take _
theorem sd_lst {lo hi : Option Int} : SlD X (.lst ds) lo hi (.lst (cutD ds lo hi)) := ⟨_, sl_list, fun M H v Q mt hv k => by
  obtain ⟨a, xs, rfl, _, ha, ra⟩ := r_lst hv
  exact ⟨a, xs, rfl, .of ha, fun p hp => k _ _ (Ext.new hp) (r_newl mt hp (ra.cut lo hi))⟩⟩
theorem sd_tup {lo hi : Option Int} : SlD X (.tup ds) lo hi (.tup (cutD ds lo hi)) := ⟨_, sl_tupA, fun M H v Q mt hv k => by
  have hv0 := hv
  obtain ⟨a, xs, rfl, ha, ra⟩ := r_tup hv
  refine ⟨a, xs, rfl, ha, fun h => ?_, fun h p hp => k _ _ (Ext.new hp) (r_newt mt hp (ra.cut lo hi))⟩
  have e : cutD ds lo hi = ds := by
    unfold cutD
    rw [ra.length] at h
    rw [h.1, h.2]; simp
  rw [e] at k
  exact k _ H (Ext.refl _ _) hv0⟩
theorem sd_str {s : Str} {lo hi : Option Int} (h : s.length ≤ sizeLine) : SlD X (.str s) lo hi (.str (cutS s lo hi)) := ⟨_, sl_str, fun M H v Q mt hv k => by
  simp only [R] at hv
  exact ⟨s, hv, h, k _ H (Ext.refl _ _) (by simp [R])⟩⟩

/-! built-ins -/
theorem kd_lenL : CalD X (.builtin "len") [.lst ds] (.int ds.length) := ⟨_, call_len_seq, fun M H vs Q mt hv k => by
    obtain ⟨v, rfl, hw⟩ := rs1 hv
    obtain ⟨a, xs, rfl, _, ha, ra⟩ := r_lst hw
    exact ⟨a, xs, rfl, .inl (.of ha), k _ H (Ext.refl _ _) (by simp [R, ra.length])⟩⟩
theorem kd_lenT : CalD X (.builtin "len") [.tup ds] (.int ds.length) := ⟨_, call_len_seq, fun M H vs Q mt hv k => by
    obtain ⟨v, rfl, hw⟩ := rs1 hv
    obtain ⟨a, xs, rfl, ha, ra⟩ := r_tup hw
    exact ⟨a, xs, rfl, .inr ha, k _ H (Ext.refl _ _) (by simp [R, ra.length])⟩⟩
theorem kd_lenS {s : Str} (h : s.length ≤ sizeLine) : CalD X (.builtin "len") [.str s] (.int s.length) := ⟨_, call_len_str, fun M H vs Q mt hv k => by
    obtain ⟨v, rfl, this⟩ := rs1 hv
    simp only [R] at this
    exact ⟨s, by rw [this], h, k _ H (Ext.refl _ _) (by simp [R])⟩⟩
theorem kd_int {i : Int} : CalD X (.type "int") [.int i] (.int i) := ⟨_, call_int1, fun M H vs Q mt hv k => by
    obtain ⟨v, rfl, this⟩ := rs1 hv
    simp only [R] at this
    exact .inl ⟨i, by rw [this], k _ H (Ext.refl _ _) (by simp [R])⟩⟩
theorem kd_intB {b : Bool} : CalD X (.type "int") [.bl b] (.int (if b then 1 else 0)) := ⟨_, call_int1, fun M H vs Q mt hv k => by
    obtain ⟨v, rfl, this⟩ := rs1 hv
    simp only [R] at this
    exact .inr ⟨b, by rw [this], k _ H (Ext.refl _ _) (by simp [R])⟩⟩
theorem kd_strI {i : Int} (h : i.natAbs.log2 < 1920) : CalD X (.type "str") [.int i] (.str (toString i)) := ⟨_, call_str_int, fun M H vs Q mt hv k => by
    obtain ⟨v, rfl, this⟩ := rs1 hv
    simp only [R] at this
    exact ⟨i, by rw [this], h, k _ H (Ext.refl _ _) (by simp [R])⟩⟩
theorem kd_sum {ns : List Int} (hc : X.calm = true := by rfl) : CalD X (.builtin "sum") [.lst (ns.map D.int)] (.int ns.sum) := ⟨_, cr_sum hc, fun M H vs Q mt hv k => by
    obtain ⟨v, rfl, hw⟩ := rs1 hv
    obtain ⟨a, xs, rfl, _, ha, ra⟩ := r_lst hw
    obtain rfl := Rs.ints.mp ra
    exact ⟨a, ns, rfl, .of ha, k _ H (Ext.refl _ _) (by simp [R])⟩⟩
def maxI : List Int → Int
  | [] => 0
  | [a] => a
  | a :: b :: r => max a (maxI (b :: r))
theorem maxI_mem : ∀ {l : List Int}, l ≠ [] → maxI l ∈ l
  | [], h => absurd rfl h
  | [a], _ => by simp [maxI]
  | a :: b :: r, _ => by
    have ih := maxI_mem (l := b :: r) (by simp)
    unfold maxI
    by_cases h : a ≤ maxI (b :: r)
    · rw [Int.max_eq_right h]; exact List.mem_cons_of_mem _ ih
    · rw [Int.max_eq_left (by omega)]; exact List.mem_cons_self
theorem maxI_le : ∀ {l : List Int} {y : Int}, y ∈ l → y ≤ maxI l
  | [a], y, h => by simp at h; simp [maxI, h]
  | a :: b :: r, y, h => by
    unfold maxI
    rcases List.mem_cons.mp h with e | e
    · subst e; exact Int.le_max_left _ _
    · exact Int.le_trans (maxI_le e) (Int.le_max_right _ _)
theorem kd_max {ns : List Int} (hn : ns ≠ []) (hc : X.calm = true := by rfl) : CalD X (.builtin "max") [.lst (ns.map D.int)] (.int (maxI ns)) := ⟨_, cr_max hc, fun M H vs Q mt hv k => by
    obtain ⟨v, rfl, hw⟩ := rs1 hv
    obtain ⟨a, xs, rfl, _, ha, ra⟩ := r_lst hw
    obtain rfl := Rs.ints.mp ra
    refine ⟨a, ns, rfl, .of ha, List.length_pos_iff.mpr hn, fun m hm hle => ?_⟩
    have e : m = maxI ns := Int.le_antisymm (maxI_le hm) (hle _ (maxI_mem hn))
    subst e
    exact k _ H (Ext.refl _ _) (by simp [R])⟩
theorem kd_any {bs : List Bool} (hc : X.calm = true := by rfl) : CalD X (.builtin "any") [.lst (bs.map D.bl)] (.bl (bs.any id)) := ⟨_, cr_any hc, fun M H vs Q mt hv k => by
    obtain ⟨v, rfl, hw⟩ := rs1 hv
    obtain ⟨a, xs, rfl, _, ha, ra⟩ := r_lst hw
    obtain rfl := Rs.bls.mp ra
    exact ⟨a, bs, rfl, .of ha, k _ H (Ext.refl _ _) (by simp [R])⟩⟩
theorem kd_all {bs : List Bool} (hc : X.calm = true := by rfl) : CalD X (.builtin "all") [.lst (bs.map D.bl)] (.bl (bs.all id)) := ⟨_, cr_all hc, fun M H vs Q mt hv k => by
    obtain ⟨v, rfl, hw⟩ := rs1 hv
    obtain ⟨a, xs, rfl, _, ha, ra⟩ := r_lst hw
    obtain rfl := Rs.bls.mp ra
    exact ⟨a, bs, rfl, .of ha, k _ H (Ext.refl _ _) (by simp [R])⟩⟩
theorem kd_listL : CalD X (.type "list") [.lst ds] (.lst ds) := ⟨_, call_list_of, fun M H vs Q mt hv k => by
    obtain ⟨v, rfl, hw⟩ := rs1 hv
    obtain ⟨a, xs, rfl, _, ha, ra⟩ := r_lst hw
    exact ⟨a, xs, rfl, .inl (.of ha), fun p hp => k _ _ (Ext.new hp) (r_newl mt hp ra)⟩⟩
theorem kd_listT : CalD X (.type "list") [.tup ds] (.lst ds) := ⟨_, call_list_of, fun M H vs Q mt hv k => by
    obtain ⟨v, rfl, hw⟩ := rs1 hv
    obtain ⟨a, xs, rfl, ha, ra⟩ := r_tup hw
    exact ⟨a, xs, rfl, .inr ha, fun p hp => k _ _ (Ext.new hp) (r_newl mt hp ra)⟩⟩
theorem kd_tupL : CalD X (.type "tuple") [.lst ds] (.tup ds) := ⟨_, call_tuple_of, fun M H vs Q mt hv k => by
    obtain ⟨v, rfl, hw⟩ := rs1 hv
    obtain ⟨a, xs, rfl, _, ha, ra⟩ := r_lst hw
    exact ⟨a, xs, rfl, .inl ⟨.of ha, fun p hp => k _ _ (Ext.new hp) (r_newt mt hp ra)⟩⟩⟩
/-- sorted texts: the one list in order -/
theorem kd_sortedS {ss ts : List Str} (hl : ss.length < 64) (h : ∀ ys : List Str, ys.Perm ss → PyProof.Rows.sortedS ys = true → ys = ts) : CalD X (.builtin "sorted") [.lst (ss.map D.str)] (.lst (ts.map D.str)) := ⟨_, cr_sortedS, fun M H vs Q mt hv k => by
    obtain ⟨v, rfl, hw⟩ := rs1 hv
    obtain ⟨a, xs, rfl, _, ha, ra⟩ := r_lst hw
    obtain rfl := Rs.strs.mp ra
    refine ⟨a, ss, rfl, .of ha, hl, fun ys p h1 h2 hp => ?_⟩
    obtain rfl := h ys h1 h2
    exact k _ _ (Ext.new hp) (r_newl mt hp (Rs.strs.mpr rfl))⟩
/-- sep.join(texts) -/
theorem sd_joinL {s : Str} {ts : List Str} (h : (ts.map (·.length)).sum + ts.length * s.length ≤ 16777216) : StrD X "str.join" s [.lst (ts.map D.str)] (.str (Txt.join s ts)) := ⟨_, mt_join, fun M H vs Q mt hv k => by
    obtain ⟨v, rfl, hw⟩ := rs1 hv
    obtain ⟨a, xs, rfl, _, ha, ra⟩ := r_lst hw
    obtain rfl := Rs.strs.mp ra
    exact ⟨s, a, ts, rfl, rfl, .inl (.of ha), h, k _ H (Ext.refl _ _) (by simp [R])⟩⟩
/-! isinstance -/
/-- what isinstance asks of an own class -/
structure ClsI (K : PySem.W.Frag) (C : Addr) : Prop where
  cl : Cls K C
  ha : PySem.W.findIn K (.ref C) "__class__" = some (some (.builtin "object.__class__"))
  hn : PySem.W.specialIn K (.builtin "object.__class__") "__get__" = some (some (.builtin "getset_descriptor.__get__"))
  ht : PySem.W.takesIn K (.builtin "object.__class__") = some true
  hm : PySem.W.mroIn K C (.type "object") = some true
def tyN : D → Option String
  | .non => some "NoneType"
  | .bl _ => some "bool"
  | .int _ => some "int"
  | .str _ => some "str"
  | .lst _ => some "list"
  | .tup _ => some "tuple"
  | _ => none
theorem tyx_of {K : PySem.W.Frag} {mg : Str → Option Value} {v : V} {t : String} : ∀ {d : D}, tyN d = some t → R K mg M H v d → TyX K H v (.type t)
  | .non, h, r => by simp only [R] at r; simp only [tyN, Option.some.injEq] at h; subst r h; exact .base .non
  | .bl _, h, r => by simp only [R] at r; simp only [tyN, Option.some.injEq] at h; subst r h; exact .base (.bl _)
  | .int _, h, r => by simp only [R] at r; simp only [tyN, Option.some.injEq] at h; subst r h; exact .base (.int _)
  | .str _, h, r => by simp only [R] at r; simp only [tyN, Option.some.injEq] at h; subst r h; exact .base (.str _)
  | .lst _, h, r => by
    unfold R at r; simp only [tyN, Option.some.injEq] at h; subst h
    obtain ⟨a, xs, rfl, _, ha, _⟩ := r
    exact .base (.lst ha)
  | .tup _, h, r => by
    unfold R at r; simp only [tyN, Option.some.injEq] at h; subst h
    obtain ⟨a, xs, rfl, ha, _⟩ := r
    rcases ha with ⟨_, ha⟩ | ⟨o, its, n, h1, h2, h3, _⟩
    · exact .base (.tup ha)
    · exact .kTuple h1 h2
  | .dic _ _, h, r => by simp [tyN] at h
  | .ref _, h, r => by simp [tyN] at h
  | .ty _, h, r => by simp [tyN] at h
  | .obj _ _ _, h, r => by simp [tyN] at h
  | .scr _, h, r => by simp [tyN] at h
  | .lam _, h, r => by simp [tyN] at h
  | .exc _ _ _ _, h, r => by simp [tyN] at h
/-- isinstance(x, T) -/
theorem kd_isi {t n : String} {b : Bool} (h1 : tyN x = some t) (h2 : kitB t n = some b) : CalD X (.builtin "isinstance") [x, .ty n] (.bl b) := ⟨_, call_isi, fun M H vs Q mt hv k => by
    obtain ⟨v, u, rfl, r1, r2⟩ := rs2 hv
    simp only [R] at r2
    subst r2
    exact ⟨v, .ty n, .type t, .type n, b, rfl, .ty n, tyx_of h1 r1, kit_ty h2, k _ H (Ext.refl _ _) (by simp [R])⟩⟩
/-- isinstance(x, C), x plain -/
theorem kd_isiC {t : String} {C : Addr} {b : Bool} (h1 : tyN x = some t) (h2 : PySem.W.kitOne X.K (.type t) (.ref C) = some b) : CalD X (.builtin "isinstance") [x, .ref C] (.bl b) := ⟨_, call_isi, fun M H vs Q mt hv k => by
    obtain ⟨v, u, rfl, r1, r2⟩ := rs2 hv
    simp only [R] at r2
    subst r2
    exact ⟨v, .ref C, .type t, .ref C, b, rfl, .own C, tyx_of h1 r1, h2, k _ H (Ext.refl _ _) (by simp [R])⟩⟩
theorem tyx_obj {K : PySem.W.Frag} {mg : Str → Option Value} {v : V} {c : Str} {ns : List Str} {C : Addr} (hm : mg c = some (.ref C)) (I : ClsI K C) (r : R K mg M H v (.obj c ns ds)) : TyX K H v (.ref C) := by
  unfold R at r
  obtain ⟨a, C', dx, xs, rfl, _, hm', ha, _⟩ := r
  rw [hm] at hm'; cases hm'
  exact .base (.ins ha I.cl I.ha I.hn I.ht I.hm)
/-- isinstance(o, T), o an instance -/
theorem kd_isiO {c : Str} {ns : List Str} {C : Addr} {n : String} {b : Bool} (hm : X.mg c = some (.ref C)) (I : ClsI X.K C) (h2 : PySem.W.kitOne X.K (.ref C) (.type n) = some b) : CalD X (.builtin "isinstance") [.obj c ns ds, .ty n] (.bl b) := ⟨_, call_isi, fun M H vs Q mt hv k => by
    obtain ⟨v, u, rfl, r1, r2⟩ := rs2 hv
    simp only [R] at r2
    subst r2
    exact ⟨v, .ty n, .ref C, .type n, b, rfl, .ty n, tyx_obj hm I r1, h2, k _ H (Ext.refl _ _) (by simp [R])⟩⟩
theorem kd_isiOC {c : Str} {ns : List Str} {C C2 : Addr} {b : Bool} (hm : X.mg c = some (.ref C)) (I : ClsI X.K C) (h2 : PySem.W.kitOne X.K (.ref C) (.ref C2) = some b) : CalD X (.builtin "isinstance") [.obj c ns ds, .ref C2] (.bl b) := ⟨_, call_isi, fun M H vs Q mt hv k => by
    obtain ⟨v, u, rfl, r1, r2⟩ := rs2 hv
    simp only [R] at r2
    subst r2
    exact ⟨v, .ref C2, .ref C, .ref C2, b, rfl, .own C2, tyx_obj hm I r1, h2, k _ H (Ext.refl _ _) (by simp [R])⟩⟩
/-- isinstance(x, (S, T)) -/
theorem kd_isiT {t n1 n2 : String} {b1 b2 : Bool} (h1 : tyN x = some t) (q1 : kitB t n1 = some b1) (q2 : kitB t n2 = some b2) : CalD X (.builtin "isinstance") [x, .tup [.ty n1, .ty n2]] (.bl (b1 || b2)) := ⟨_, CallR.or call_isiT call_isiK, fun M H vs Q mt hv k => by
    obtain ⟨v, u, rfl, r1, r2⟩ := rs2 hv
    unfold R at r2
    obtain ⟨a, xs, rfl, ha, rr⟩ := r2
    obtain ⟨w1, w2, rfl, g1, g2⟩ := rs2 rr
    simp only [R] at g1 g2
    subst g1 g2
    have any2 : PySem.W.kitAny X.K (.type t) [.type n1, .type n2] = some (b1 || b2) := by
      refine kitAny_cons (kit_ty q1) (fun e => ?_) fun e => by rw [e]; rfl
      subst e
      refine kitAny_cons (kit_ty q2) (fun e => ?_) fun e => by rw [e]; rfl
      subst e
      exact kitAny_nil
    rcases ha with ⟨_, ha⟩ | ⟨⟨oc, dd, dt, sl⟩, its, n, k1, k2, k3, k4, k5⟩
    · exact .inl ⟨v, a, _, .type t, [.type n1, .type n2], _, rfl, ha, .cons (.ty _) (.cons (.ty _) .nil), tyx_of h1 r1, any2, k _ H (Ext.refl _ _) (by simp [R])⟩
    · simp only at k2 k3
      subst k2 k3
      have e5 : its.toList = [.type n1, .type n2] := by
        cases its with
        | mk l =>
          simp only at k5
          cases k5 with
          | cons a1 k6 =>
            cases k6 with
            | cons a2 k7 =>
              cases k7
              rw [show _ = _ from a1, show _ = _ from a2]
      refine .inr ⟨v, a, dd, its.toList, n, sl, .type t, _, rfl, by simpa using k1, tyx_of h1 r1, by rw [e5]; exact any2, k _ H (Ext.refl _ _) (by simp [R])⟩⟩
end
end Od

set_option Elab.async false
set_option linter.all false
set_option maxRecDepth 100000
set_option maxHeartbeats 4000000
/-! Od7: max(xs, default=d) of a list of ints -/
namespace Od
open PySem L2 PyProof.Rows
section
variable {prog : Program} {w : World} {A : Around} {rr : Result → Shared → Prop} {it bl : Addr} {fp wr : List Addr} {n : Nat} {pp : Nat → Value → Prop} {stt : Nat → Heap → Prop} {dv : Value}
def dfl (dv : Value) : List (Str × Value) := [(Str.ofString "default", dv)]
abbrev lsO (vs : Array Value) (c : Nat) : Obj := { cls := .type "list", dict := none, data := .seq vs c, slots := #[] }
theorem mxName : (toString "max" ++ toString ".loop" : String) = "max.loop" := by decide
/-- the turns behind the first -/
theorem mx_loop (W : PySem.Walks prog w A.in1 it fp wr n pp stt) (bt : Nat → Nat → Bool) (hc : CmpOf prog w A.in1 .Gt pp bt) (hb : bl ∉ fp) (k : Nat) : ∀ (j : Nat) (s : Shared) (vb : Value) (c : Nat), n - (j + 1) = k → j + 1 ≤ n → stt (j + 1) s.heap → pp (argBest bt j) vb → s.heap.get? bl = some (lsO #[vb, vb] c) →
    (∀ v h' tk, pp (argBest bt (n - 1)) v → (∀ b o, b ∉ wr → b ≠ bl → s.heap.get? b = some o → h'.get? b = some o) → rr (.ok (.ret v)) { s with heap := h', toks := tk }) → codeAny (model prog w) A (.builtin "max.loop" ⟨[.ref it, .none, .ref bl], dfl dv⟩) rr s := by
  have hw : bl ∉ wr := fun h => hb (W.sub _ h)
  induction k with
  | zero =>
    intro j s vb c hk hj hs hp hS hR
    have he : j + 1 = n := by omega
    refine codeAny_builtin (F.entry_max_loop) ?_
    rw [Around.under_plainId (F.plain_max_loop) _]
    show wpAny (model prog w) A.in1 ((seqItems? (.ref bl)) >>= _) _ _ s
    refine wpAny_bind (wpAny_seqItems (hS) rfl ?_)
    show wpAny (model prog w) A.in1 ((tryCatch (pyNext (.ref it)) _) >>= _) _ _ s
    refine wpAny_bind (wpAny_tryCatch (W.done (s) _ _ (he ▸ hs) fun h' tk hk' => ?_))
    have hS2 := hk' bl _ hw hS
    show wpAny (model prog w) A.in1 ((updateSeq bl (fun _ => #[])) >>= _) _ _ _
    refine wpAny_bind (wpAny_updateSeq (hS2) rfl (wpAny_bind (wpAny_letGo (wpAny_pure (hR vb _ tk (by rw [← he]; exact hp) fun b o b1 b2 e => ?_)))))
    exact (Heap.get?_update_other _ _ fun z => b2 z.symm).trans (hk' b o b1 e)
  | succ k ih =>
    intro j s vb c hk hj hs hp hS hR
    have he : j + 1 < n := by omega
    refine codeAny_builtin (F.entry_max_loop) ?_
    rw [Around.under_plainId (F.plain_max_loop) _]
    show wpAny (model prog w) A.in1 ((seqItems? (.ref bl)) >>= _) _ _ s
    refine wpAny_bind (wpAny_seqItems (hS) rfl ?_)
    show wpAny (model prog w) A.in1 ((tryCatch (pyNext (.ref it)) _) >>= _) _ _ s
    refine wpAny_bind (wpAny_tryCatch (W.item (j + 1) (s) _ _ he hs fun v h' tk hv hs' hk' => ?_))
    have hS2 := hk' bl _ hw hS
    show wpAny (model prog w) A.in1 ((tryCatch (holding [v, v] (richCompare .Gt v vb >>= _)) _) >>= _) _ _ _
    refine wpAny_bind (wpAny_tryCatch (wpAny_holding (wpAny_bind (hc (j + 1) (argBest bt j) v vb _ _ _ hv hp (wpAny_bind (wpAny_holding (wpAny_truthy_bool (wpAny_bind (wpAny_letGo (wpAny_pure ?_))))))))))
    cases hbb : bt (j + 1) (argBest bt j) with
    | true =>
      simp only [if_true]
      refine wpAny_bind (wpAny_updateSeq (hS2) rfl (wpAny_bind (wpAny_letGo ?_)))
      rw [mxName]
      refine wpAny_pure ⟨plainId_quiet (F.plain_max_loop) _, ih (j + 1) _ v _ (by omega) he (W.frame _ _ _ hs' fun b b1 o e => ?_) (by simp only [argBest, hbb, if_true]; exact hv) (Heap.get?_update_self _ hS2 rfl) fun v' h2 tk2 hv' hk2 => hR v' h2 tk2 hv' fun b o b1 b2 e => ?_⟩
      · exact (Heap.get?_update_other _ _ fun z => hb (by rw [z]; exact b1)).trans e
      · exact hk2 b o b1 b2 ((Heap.get?_update_other _ _ fun z => b2 z.symm).trans (hk' b o b1 e))
    | false =>
      simp only [Bool.false_eq_true, if_false]
      refine wpAny_bind (wpAny_letGo ?_)
      rw [mxName]
      exact wpAny_pure ⟨plainId_quiet (F.plain_max_loop) _, ih (j + 1) _ vb c (by omega) he hs' (by simp only [argBest, hbb, Bool.false_eq_true, if_false]; exact hp) hS2 fun v' h2 tk2 hv' hk2 => hR v' h2 tk2 hv' fun b o b1 b2 e => hk2 b o b1 b2 (hk' b o b1 e)⟩
theorem mx_key (a dv : Value) : argsOk "max" ⟨[a], dfl dv⟩ := by unfold argsOk; kernel_rfl
end
section
variable {prog : Program} {w : World} {A : Around} {E : Value → Shared → Prop} {s : Shared} {l : Addr} {xs : Array (Int × Tok)} {Q : Value → Shared → Prop} {dv : Value}
theorem max_dfl (hh : A.handled = none) (hl : s.heap.IsList l (intItems xs)) (h0 : xs.size = 0 → ∀ h' tk, (∀ b o, s.heap.get? b = some o → h'.get? b = some o) → Q dv { s with heap := h', toks := tk })
    (h : 0 < xs.size → ∀ v h' tk, (intItems xs)[argBest (fun i j => decide (numAt xs i > numAt xs j)) (xs.size - 1)]? = some v → (∀ b o, s.heap.get? b = some o → h'.get? b = some o) → Q v { s with heap := h', toks := tk }) :
    wpAny (model prog w) A (call (.builtin "max") [.ref l] (dfl dv)) Q E s := by
  refine kmk_tree F.kind_max F.plain_max F.entry_max (mx_key _ _) ?_
  show wpAny (model prog w) A.in1 ((Builtin.Builtins.bindParams "max" ["key", "default"] 0 ⟨[], dfl dv⟩) >>= _) _ _ s
  refine wpAny_bind (wpAny_of_eq (show Builtin.Builtins.bindParams "max" ["key", "default"] 0 ⟨[], dfl dv⟩ = pure [none, some dv] from rfl) (wpAny_bind (wpAny_pure (wpAny_bind (iter_intList hl fun s2 e st hfp hne => ?_)))))
  subst e
  refine wpAny_bind (wpAny_newObj_type ?_)
  rw [mxName]
  have W := PySem.Walks.list (prog := prog) (w := w) (A := A.in1) hh _ l hne (intItems xs)
  have hS : (s.heap.push { cls := .type "list_iterator", data := .fields #[.ref l, .int 0 0] }).objs.size ∉ [s.heap.objs.size, l] := fun hm => Nat.lt_irrefl _ (hfp _ hm)
  refine wpAny_pure ⟨plainId_quiet (F.plain_max_loop) _, ?_⟩
  have g1 := Heap.get?_push_size (s.heap.push { cls := .type "list_iterator", data := .fields #[.ref l, .int 0 0] }) (o := lsO #[] 0) rfl
  have kp : ∀ b o, b ∉ [s.heap.objs.size] → (s.heap.push { cls := .type "list_iterator", data := .fields #[.ref l, .int 0 0] }).get? b = some o → b ≠ (s.heap.push { cls := .type "list_iterator", data := .fields #[.ref l, .int 0 0] }).objs.size := fun b o _ e => Nat.ne_of_lt (Heap.lt_size e)
  have s0 := W.frame 0 _ ((s.heap.push { cls := .type "list_iterator", data := .fields #[.ref l, .int 0 0] }).push (lsO #[] 0)) st fun b _ o e => Heap.get?_push_of_some _ e
  have hw : (s.heap.push { cls := .type "list_iterator", data := .fields #[.ref l, .int 0 0] }).objs.size ∉ [s.heap.objs.size] := fun hm => hS (List.mem_cons.mpr (.inl (List.mem_singleton.mp hm)))
  have sz : (intItems xs).size = xs.size := by simp [intItems]
  refine codeAny_builtin (F.entry_max_loop) ?_
  rw [Around.under_plainId (F.plain_max_loop) _]
  show wpAny (model prog w) A.in1 ((seqItems? (.ref _)) >>= _) _ _ _
  refine wpAny_bind (wpAny_seqItems (g1) rfl ?_)
  show wpAny (model prog w) _ ((tryCatch (pyNext (.ref _)) _) >>= _) _ _ _
  by_cases hz : xs.size = 0
  · refine wpAny_bind (wpAny_tryCatch (W.done _ _ _ (by rw [sz, hz]; exact s0) fun h' tk hk' => ?_))
    refine wpAny_bind (wpAny_rule (wpAny_pure (h0 hz h' tk fun b o e => hk' b o (fun z => ?_) ?_)))
    · exact absurd (Heap.lt_size e) (by rw [List.mem_singleton.mp z]; exact Nat.lt_irrefl _)
    · exact Heap.get?_push_of_some _ (Heap.get?_push_of_some _ e)
  · have hp : 0 < xs.size := Nat.pos_of_ne_zero hz
    refine wpAny_bind (wpAny_tryCatch (W.item 0 _ _ _ (by rw [sz]; exact hp) s0 fun v h' tk hv hs' hk' => ?_))
    have hS2 := hk' _ _ hw g1
    show wpAny (model prog w) A.in1 ((updateSeq _ (fun _ => #[v, v])) >>= _) _ _ _
    refine wpAny_bind (wpAny_updateSeq (hS2) rfl ?_)
    rw [mxName]
    refine wpAny_pure ⟨plainId_quiet (F.plain_max_loop) _, mx_loop W _ (CmpOf.ints_gt (numAt xs) (fun _ _ => intItems_at)) hS _ 0 _ v _ rfl (by rw [sz]; exact hp) (W.frame _ _ _ hs' fun b b1 o e => ?_) hv (Heap.get?_update_self _ hS2 rfl) fun v' h2 tk2 hv' hk2 => h hp v' h2 tk2 (by rw [sz] at hv'; exact hv') fun b o e => ?_⟩
    · exact (Heap.get?_update_other _ _ fun z => hS (by rw [z]; exact b1)).trans e
    · have lb := Heap.lt_size e
      have b1 : b ∉ [s.heap.objs.size] := fun z => absurd lb (by rw [List.mem_singleton.mp z]; exact Nat.lt_irrefl _)
      have e2 := Heap.get?_push_of_some ({ cls := .type "list_iterator", data := .fields #[.ref l, .int 0 0] } : Obj) e
      have b2 := kp b o b1 e2
      exact hk2 b o b1 b2 ((Heap.get?_update_other _ _ fun z => b2 z.symm).trans (hk' b o b1 (Heap.get?_push_of_some _ e2)))
theorem max_dflI {its : List Value} {ns : List Int} (hh : A.handled = none) (hl : s.heap.IsList l its.toArray) (hi : IntsAre its ns) (h0 : ns = [] → ∀ h' tk, (∀ b o, s.heap.get? b = some o → h'.get? b = some o) → Q dv { s with heap := h', toks := tk })
    (h : ns ≠ [] → ∀ h' tk m t', (∀ b o, s.heap.get? b = some o → h'.get? b = some o) → m ∈ ns → (∀ a, a ∈ ns → a ≤ m) → Q (.int m t') { s with heap := h', toks := tk }) : wpAny (model prog w) A (call (.builtin "max") [.ref l] (dfl dv)) Q E s := by
  obtain ⟨xs, e⟩ := hi.allInts.items
  have hn : numsOf (intItems xs).toList = ns := by rw [← e]; exact hi.numsOf
  rw [nums_intItems] at hn
  subst hn
  rw [e] at hl
  have lz : (xs.toList.map (·.1)).length = xs.size := by simp
  refine max_dfl hh hl (fun z h' tk hk => h0 (List.eq_nil_of_length_eq_zero (by rw [lz]; exact z)) h' tk hk) fun hp v h' tk hv hk => ?_
  obtain ⟨t, rfl⟩ := intItems_at hv
  obtain ⟨h1, h2⟩ := argBest_gt (numAt xs) (xs.size - 1)
  refine h (fun z => by rw [z] at lz; simp at lz; omega) h' tk _ t hk ?_ fun a ha => ?_
  · rw [numAt_eq]; exact getD_mem (by rw [lz]; omega)
  · obtain ⟨j, hj, rfl⟩ := mem_getD ha
    rw [lz] at hj
    rw [← numAt_eq]; exact h2 j (by omega)
end
section
variable {X : Cx} {M : Addr → Prop} {e : DE} {cs cs1 cs2 cs3 : Cs} {pos p pos' apos : Pos} {a b c ex o : Expr} {es : List Expr} {d x y z : D} {ds : List D} {n m : Str}
def maxDI (d : Int) : List Int → Int
  | [] => d
  | a :: r => maxI (a :: r)
/-- max(xs, default=d) -/
theorem e_maxD {ns : List Int} {dv : Int} {kv : Expr} {kp : Pos} (ha : EE X M e cs a (.lst (ns.map D.int)) cs1) (hb : EE X M e cs1 kv (.int dv) cs2) (hm : X.mg "max" = none) (hc : X.calm = true := by rfl) (hg : Gl X "max" := by rfl)
    (hk : ∀ t, PE X kv t → PK X [⟨some "default", kv, kp⟩] (tCons t tNil))
    (he : backTo pos (starEach [a] X.env) = (false, eval a X.env) :: backTo pos (starEach [] X.env) := by rfl) (hpl : (backTo pos (starEach [a] X.env)).any (·.1) = false := by rfl)
    (hall : (backToKw pos (keywordEach [⟨some "default", kv, kp⟩] X.env)).all (·.1.isSome) = true := by rfl) (hnone : (backToKw pos (keywordEach [⟨some "default", kv, kp⟩] X.env)).any (·.1.isNone) = false := by rfl) (hks : (backToKw pos (keywordEach [⟨some "default", kv, kp⟩] X.env)).filterMap (·.1) = [Str.ofString "default"] := by rfl)
    (hst : starEach [a] X.env = (false, eval a X.env) :: starEach [] X.env := by rfl) : EE X M e cs (.Call (.Name "max" p) [a] [⟨some "default", kv, kp⟩] pos) (.int (maxDI dv ns)) cs2 where
  dm := hb.dm.trans ha.dm
  k := fun σ H Q S k => by
    have cr : CallRK X (.builtin "max") [Str.ofString "default"] (fun vs zs H Q => ∃ (a : Addr) (ns : List Int) (dv : Int), vs = [V.ref a] ∧ zs = [V.int dv] ∧ SqL X.K H a (ns.map V.int) ∧ Q (.int (maxDI dv ns)) H) := by
      intro pins s σ H xs zs us ws Q I r1 r2 h
      obtain ⟨a, ns, dv, rfl, rfl, hs, q⟩ := h
      obtain ⟨its, rv, hl, _⟩ := I.list hs
      rw [Vals.ref1 r1]
      cases r2 with
      | cons rr tt =>
        cases tt
        obtain ⟨t, rfl⟩ := rr
        refine max_dflI (I.ok.hd hc) hl.isList rv.ints (fun z h' tk hk => ?_) fun z h' tk mm t' hk h1 h2 => ?_
        · subst z
          exact ⟨.int dv, H, I.kept hk, ⟨t, rfl⟩, q⟩
        · refine ⟨.int mm, H, I.kept hk, ⟨t', rfl⟩, ?_⟩
          have e : maxDI dv ns = mm := by
            cases ns with
            | nil => exact absurd rfl z
            | cons a r => exact Int.le_antisymm (h2 _ (maxI_mem (by simp))) (maxI_le h1)
          rw [← e]; exact q
    refine we_of (pe_callBK cr hg hm (by decide +kernel) (pa_cons pe_w pa_nil hst) (hk _ pe_w) (by decide) (by decide) he hpl hall hnone hks) (ha.k σ H _ S fun v H1 S1 x1 r1 => hb.k σ H1 _ S1 fun u H2 S2 x2 r2 => ?_)
    simp only [R] at r2
    subst r2
    have r1' := S1.r x2 r1
    obtain ⟨ad, xs, rfl, _, hq, rr⟩ := r_lst r1'
    obtain rfl := Rs.ints.mp rr
    exact ⟨ad, ns, dv, rfl, rfl, .of hq, k _ H2 S2 (x1.trans (by rw [← ha.dm]; exact x2)) (by simp [R])⟩
end
end Od

set_option Elab.async false
set_option linter.all false
set_option maxRecDepth 100000
set_option maxHeartbeats 4000000
/-! Od8: cells of lists, own operators, tables of the module, zip -/
namespace Od
open PySem L2
section
variable {X : Cx} {M : Addr → Prop} {e : DE} {cs cs1 cs2 cs3 : Cs} {fr : Frs} {D0 : Ends} {pos p pos' apos : Pos} {a b c ex o : Expr} {es : List Expr} {rest : List Stmt} {d x y z : D} {ds es' : List D} {n m : Str} {k j : Nat}
theorem cell_lst {σ : L2.St} {H : Hp} {ad : Addr} (S : Sit X.K X.mg M σ H e cs) (hin : (ad, MC.lst ds) ∈ cs) : M ad ∧ ∃ xs, H ad = some (.lst xs) ∧ Rs X.K X.mg M H xs ds := by
  obtain ⟨h1, h2⟩ := S.cel _ hin
  exact ⟨h1, h2⟩
/-- b[i], b a list that may change -/
theorem e_ixc {ad : Addr} {i : Int} {j : Nat} (ha : EE X M e cs a (.ref ad) cs) (hb : EE X M e cs b (.int i) cs) (hin : (ad, MC.lst ds) ∈ cs) (hi : ixN ds.length i = some j) (hd : ds[j]? = some d) (hs : PlainIx b := by intro _ _; rfl) : EE X M e cs (.Subscript a b pos) d cs where
  dm := rfl
  k := fun σ H Q S k => by
    refine we_of (pe_ix ix_list pe_w pe_w hs) (ha.k σ H _ S fun v H1 S1 x1 r1 => hb.k σ H1 _ S1 fun u H2 S2 x2 r2 => ?_)
    simp only [R] at r1 r2
    obtain ⟨_, xs, h3, rs⟩ := cell_lst S2 hin
    obtain ⟨w, hw, rw'⟩ := rs.get hd
    exact ⟨ad, xs, i, w, r1, r2, .of h3, by unfold atI; rw [rs.length, hi]; exact hw, k _ H2 S2 (x1.trans x2) rw'⟩
/-- len(b), b a list that may change -/
theorem e_lenc {ad : Addr} (ha : EE X M e cs a (.ref ad) cs) (hin : (ad, MC.lst ds) ∈ cs) (hm : X.mg "len" = none) (hg : Gl X "len" := by rfl) (he : starEach [a] X.env = (false, eval a X.env) :: starEach [] X.env := by rfl) : EE X M e cs (.Call (.Name "len" p) [a] [] pos) (.int ds.length) cs where
  dm := rfl
  k := fun σ H Q S k => by
    refine we_of (pe_callB call_len_seq hg hm PySem.boot_len (pa_cons pe_w pa_nil he) (by decide) (by decide) he rfl) (ha.k σ H _ S fun v H1 S1 x1 r1 => ?_)
    simp only [R] at r1
    obtain ⟨_, xs, h3, rs⟩ := cell_lst S1 hin
    exact ⟨ad, xs, by rw [r1], .inl (.of h3), k _ H1 S1 x1 (by simp [R, rs.length])⟩
/-- a told thing is written -/
theorem sit_put {σ : L2.St} {H : Hp} {ad : Addr} {mc mc' : MC} {ho : HO} (S : Sit X.K X.mg M σ H e cs) (hu : Upd1 ad mc mc' cs cs2) (hc : Cell X.K X.mg M (upd H ad ho) ad mc') : Sit X.K X.mg M σ (upd H ad ho) e cs2 := by
  have mm := (S.cel _ hu.mem).1
  have hnm : ∀ b o, ¬ M b → H b = some o → upd H ad ho b = some o := fun b o nb h => by rw [upd_ne (fun z => nb (by rw [z]; exact mm))]; exact h
  refine ⟨fun b mb => ?_, S.len, fun i d' q => ?_, fun q hq => ?_, ?_⟩
  · by_cases h : b = ad
    · subst h; rw [upd_same]; simp
    · rw [upd_ne h]; exact S.mt b mb
  · obtain ⟨u, e3, r⟩ := S.env i d' q
    exact ⟨u, e3, R.ext hnm (fun _ n _ => n) _ r⟩
  · rcases hu.of S.nd q hq with rfl | ⟨q1, q2⟩
    · exact ⟨mm, hc⟩
    · exact ⟨(S.cel q q1).1, (S.cel q q1).2.ext hnm (fun _ n _ => n) fun o h => by rw [upd_ne q2]; exact h⟩
  · rw [show cs2.map (·.1) = cs.map (·.1) from hu.dm]; exact S.nd
theorem ext_put {H : Hp} {ad : Addr} {ho : HO} (hin : ad ∈ dom cs) : Ext (dom cs) H (upd H ad ho) := fun b o h n => by
  rw [upd_ne (fun z => n (by rw [z]; exact hin))]; exact h
theorem Upd1.dom {ad : Addr} {mc mc' : MC} (hu : Upd1 ad mc mc' cs cs2) : ad ∈ Od.dom cs := List.mem_map_of_mem (f := (·.1)) hu.mem
/-- b[i] = v, b a list that may change -/
theorem at_sub {ad : Addr} {i : Int} {j : Nat} {pt : Pos} (hv : EE X M e cs ex d cs1) (ha : EE X M e cs1 a (.ref ad) cs1) (hb : EE X M e cs1 b (.int i) cs1) (hu : Upd1 ad (.lst ds) (.lst (ds.set j d)) cs1 cs2) (hi : ixN ds.length i = some j)
    (k : At X M e cs2 fr (wSs X rest D0)) (hs : swapsWith ex (some (.Subscript a b pt)) pos.line X.env = pure false := by rfl)
    (hx : ∀ v, assign (.Subscript a b pt) X.env v = (do
      let ov ← holding [v] (eval a X.env)
      let iv ← holding [v, ov] (eval b X.env)
      standAt pt
      holding [v, ov, iv] (setItem ov iv v)
      release [v, ov, iv] []) := by intro _; rfl)
    (hps : ∀ g, PG X (.Subscript a b pt) g → PS X (.Assign [.Subscript a b pt] ex pos) (tAsg (wE X ex) g) := by intro g hg; exact ps_asg pe_w hg rfl rfl rfl) : At X M e cs fr (wSs X (.Assign [.Subscript a b pt] ex pos :: rest) D0) := fun σ H S x l =>
  wss_of (pss_cons (hps _ (pg_sub pe_w pe_w set_list hx)) pss_w) (hv.k σ H _ S fun v H1 S1 x1 r1 => ha.k σ H1 _ S1 fun w H2 S2 x2 r2 => hb.k σ H2 _ S2 fun u H3 S3 x3 r3 => by
    simp only [R] at r2 r3
    obtain ⟨mm, xs, h3, rs⟩ := cell_lst S3 hu.mem
    have r1' := S2.r x3 (S1.r x2 r1)
    refine ⟨ad, xs, i, j, r2, r3, h3, by rw [rs.length]; exact hi, ?_⟩
    have hnm : ∀ b o, ¬ M b → H3 b = some o → upd H3 ad (.lst (xs.set j v)) b = some o := fun b o nb h => by rw [upd_ne (fun z => nb (by rw [z]; exact mm))]; exact h
    refine k σ _ (sit_put S3 hu ⟨_, upd_same, Rs.ext hnm (fun _ n _ => n) _ (rs.set j r1')⟩) ?_ (lo_of l (hu.dm.trans hv.dm))
    have l1 : Lo fr cs1 := lo_of l hv.dm
    exact ext_on (ext_on (ext_on (ext_on x l x1) l1 x2) l1 x3) l1 (ext_put hu.dom))

/-! ### a table of the module: texts by texts -/
theorem xd_kd {pa : Addr} {s t : Str} (h : KDct X.K X.w pa s (.str t)) : IxD X (.ref pa) (.str s) (.str t) := ⟨_, ix_kdict, fun M H v u Q mt hv hu k => by
  simp only [R] at hv hu
  exact ⟨pa, s, .str t, hv, hu, h, k _ H (Ext.refl _ _) (by simp [R])⟩⟩

/-! ### own operators -/
/-- a def of the class under a special name -/
structure Dun (P : Program) (w : World) (K : PySem.W.Frag) (mg : Str → Option Value) (base : Heap) (c m : Str) (k : Nat) (sp : Sp) : Prop where
  ex : ∃ C f, mg c = some (.ref C) ∧ PySem.W.findIn K (.ref C) m = some (some (.ref f)) ∧ PySem.W.isFn K (.ref f) = true ∧ FnR P w K mg base (L2.CX P w) k f sp
variable {ι : Type} {pre : ι → Prop} {args : ι → List D} {res : ι → D}
theorem pu_use {H : Hp} {Q : VK} {E : XK} {vs : List V} (i : ι) (hp : pre i) (mt : ∀ a, M a → H a ≠ none) (r : Rs X.K X.mg M H vs (args i)) (k : Gives X M H (res i) Q) : puSp X.K X.mg pre args res vs H Q E :=
  ⟨M, i, hp, mt, r, by simp, by simp, fun v H' mt' xt _ rv => k v H' xt rv⟩
theorem ud_own {cn : Str} {ns : List Str} (F : Dun X.prog X.w X.K X.mg X.base cn "__neg__" k (puSp X.K X.mg pre args res)) (hr : Room k X.A) (i : ι) (hp : pre i) (hds : [.obj cn ns ds] = args i) : UnD X .USub (.obj cn ns ds) (res i) := by
  obtain ⟨C, f, hm, hf, hfn, F⟩ := F.ex
  have ur : UnR X (unaryOp .USub) (fun x H Q => ∃ a dx fs, x = .ref a ∧ H a = some (.ins C dx fs) ∧ puSp X.K X.mg pre args res [.ref a] H Q E0) := by
    intro pins s σ H x v Q I rx h
    obtain ⟨a, dx, fs, rfl, ea, q⟩ := h
    cases (show v = Value.ref a from rx)
    obtain ⟨mA, O, _, _, _, _⟩ := ins_get I.hok ea
    obtain ⟨od, J, _⟩ := O.look
    obtain ⟨m, hF⟩ := I.fr
    exact PySem.W.ksp_neg hF I.ok.mod.kin J hf hfn (wpAny_call (run_fnR (us := [.ref a]) (vs := [.ref a]) F hr passL I (.cons rfl .nil) q))
  refine ⟨_, ur, fun M H v Q mt hv k => ?_⟩
  have hv0 := hv
  obtain ⟨ad, C', dx, xs, rfl, _, hm', ho, hl, rs⟩ := r_obj hv
  rw [hm] at hm'; cases hm'
  exact ⟨ad, dx, _, rfl, ho, pu_use i hp mt (by rw [← hds]; exact .cons hv0 .nil) k⟩
/-- x == y, x and y of one class with its own def -/
theorem cd_own {op : CmpOp} {cn : Str} {ns : List Str} {b0 : Bool} {nm : Str} (F : Dun X.prog X.w X.K X.mg X.base cn nm k (puSp X.K X.mg pre args res)) (hn : ∀ C, X.mg cn = some (.ref C) → PySem.W.notFirst X.K C (.ref C) = true) (hr : Room k X.A) (i : ι) (hp : pre i) (hds : [.obj cn ns ds, .obj cn ns es'] = args i) (hb : res i = .bl b0)
    (hop : ∀ a b, compareOp op a b = richCompare op a b := by intro _ _; rfl) (hi : (cmpInfo op).2.1 = nm := by rfl) : CmpD X op (.obj cn ns ds) (.obj cn ns es') b0 := by
  subst hi
  obtain ⟨C, f, hm, hf, hfn, F⟩ := F.ex
  have ur : OpR X (compareOp op) (fun x y H Q => ∃ a dx fs b dy gs, x = .ref a ∧ y = .ref b ∧ H a = some (.ins C dx fs) ∧ H b = some (.ins C dy gs) ∧ puSp X.K X.mg pre args res [.ref a, .ref b] H Q E0) := by
    intro pins s σ H x y v u Q I rx ry h
    obtain ⟨a, dx, fs, b, dy, gs, rfl, rfl, ea, eb, q⟩ := h
    cases (show v = Value.ref a from rx)
    cases (show u = Value.ref b from ry)
    obtain ⟨mA, O, _, _, _, _⟩ := ins_get I.hok ea
    obtain ⟨od, J, _⟩ := O.look
    obtain ⟨mB, O2, _, _, _, _⟩ := ins_get I.hok eb
    obtain ⟨od2, J2, _⟩ := O2.look
    obtain ⟨m, hF⟩ := I.fr
    rw [hop]
    refine PySem.W.cmp_K (op := op) (tb := .ref C) hr.units0 hF I.ok.mod.kin J J2.type (hn C hm) hf hfn ?_
    refine wpAny_mono (wpAny_call (run_fnR (us := [.ref a, .ref b]) (vs := [.ref a, .ref b]) F hr passL I (.cons rfl (.cons rfl .nil)) q)) (fun w s' z => ?_) fun _ _ x => x
    obtain ⟨z', H', I', rz, qz⟩ := z
    exact SlX.cmpback rz ⟨z', H', I', rz, qz⟩
  refine ⟨_, ur, fun M H v u Q mt hv hu k => ?_⟩
  have hv0 := hv
  have hu0 := hu
  obtain ⟨ad, C', dx, xs, rfl, _, hm', ho, hl, rs⟩ := r_obj hv
  rw [hm] at hm'; cases hm'
  obtain ⟨ad2, C', dx2, xs2, rfl, _, hm', ho2, hl2, rs2⟩ := r_obj hu
  rw [hm] at hm'; cases hm'
  exact ⟨ad, dx, _, ad2, dx2, _, rfl, rfl, ho, ho2, pu_use i hp mt (by rw [← hds]; exact .cons hv0 (.cons hu0 .nil)) (by rw [hb]; exact k)⟩
end

/-! ### the script -/
section
variable {X : Cx} {M : Addr → Prop}
theorem sd_scr {ns : List Int} {lo hi : Option Int} : SlD X (.scr ns) lo hi (.lst (cutD (ns.map D.int) lo hi)) := ⟨_, sl_list, fun M H v Q mt hv k => by
  unfold R at hv
  obtain ⟨a, rfl, q⟩ := hv
  refine ⟨a, ns.map V.int, rfl, ?_, fun p hp => k _ _ (Ext.new hp) (r_newl mt hp ((Rs.ints.mpr rfl : Rs X.K X.mg M H (ns.map V.int) (ns.map D.int)).cut lo hi))⟩
  rcases q with ⟨_, q⟩ | q
  · exact .inl q
  · exact .inr q⟩
theorem r_scr {H : Hp} {a : Addr} {ns : List Int} (m : ∀ a, ¬ M a) (h : SqL X.K H a (ns.map V.int)) : R X.K X.mg M H (.ref a) (.scr ns) := by
  unfold R
  refine ⟨a, rfl, ?_⟩
  rcases h with h | h
  · exact .inl ⟨m a, h⟩
  · exact .inr h
end
end Od

set_option Elab.async false
set_option linter.all false
set_option maxRecDepth 100000
set_option maxHeartbeats 4000000
/-! Od9: instances in the making, fields of things that may change, walks over pairs -/
namespace Od
open PySem L2
section
variable {X : Cx} {M : Addr → Prop} {e : DE} {cs cs1 cs2 cs3 : Cs} {fr : Frs} {D0 : Ends} {pos p pos' apos : Pos} {tg a b c ex o : Expr} {es : List Expr} {rest : List Stmt} {d x y z : D} {ds es' : List D} {n m : Str} {k j : Nat}
/-- self.f, self a thing that may change -/
theorem e_fldc {ad C : Addr} {cn : Str} {ns : List Str} (ha : EE X M e cs a (.ref ad) cs) (hin : (ad, MC.obj cn ns ds) ∈ cs) (hm : X.mg cn = some (.ref C)) (hc : Cls X.K C) (hn : NoAttr X.K C m) (i : Nat) (hi : ns.idxOf? m = some i) (hd : ds[i]? = some d)
    (hb : attributeBase a m X.env (eval a X.env) = eval a X.env := by rfl) : EE X M e cs (.Attribute a m pos) d cs where
  dm := rfl
  k := fun σ H Q S k => we_of (pe_fld pe_w hb) (ha.k σ H _ S fun v H1 S1 x1 r1 => by
    simp only [R] at r1
    obtain ⟨_, C', dx, xs, hm', ho, hl, rs⟩ := S1.cel _ hin
    rw [hm] at hm'; cases hm'
    obtain ⟨u, hu, ru⟩ := rs.get hd
    exact ⟨ad, C, dx, _, u, r1, ho, hc, hn, zip_lookup hi hu, k u H1 S1 x1 ru⟩)
theorem putF_new {m : Str} {x : V} : ∀ {ns : List Str} {xs : List V}, m ∉ ns → xs.length = ns.length → putF m x (ns.zip xs) = (ns ++ [m]).zip (xs ++ [x])
  | [], [], _, _ => rfl
  | n :: ns, y :: xs, h, l => by
    have h1 : ¬ n = m := fun z => h (by simp [z])
    show (if n = m then _ else (n, y) :: putF m x (ns.zip xs)) = _
    rw [if_neg h1, putF_new (fun z => h (List.mem_cons_of_mem _ z)) (by simpa using l)]
    rfl
  | [], _ :: _, _, l => by simp at l
  | _ :: _, [], _, l => by simp at l
theorem putF_at {m : Str} {x : V} : ∀ {ns : List Str} {xs : List V} {i : Nat}, ns.idxOf? m = some i → xs.length = ns.length → putF m x (ns.zip xs) = ns.zip (xs.set i x)
  | [], _, _, h, _ => by simp at h
  | n :: ns, [], _, _, l => by simp at l
  | n :: ns, y :: xs, i, h, l => by
    show (if n = m then (n, x) :: ns.zip xs else (n, y) :: putF m x (ns.zip xs)) = _
    rw [List.idxOf?_cons] at h
    by_cases q : n = m
    · subst q
      simp at h; subst h
      rw [if_pos rfl]; rfl
    · simp [q] at h
      obtain ⟨j, hj, rfl⟩ := h
      rw [if_neg q, putF_at hj (by simpa using l)]
      rfl
/-- self.f = v, f new -/
theorem at_fldN {ad C : Addr} {cn : Str} {ns : List Str} (hv : EE X M e cs ex d cs1) (ho : EE X M e cs1 a (.ref ad) cs1) (hm : X.mg cn = some (.ref C)) (hcl : Cls X.K C) (hn : NoAttr X.K C m) (hlen : ns.length < 900) (hnew : m ∉ ns) (hu : Upd1 ad (.obj cn ns ds) (.obj cn (ns ++ [m]) (ds ++ [d])) cs1 cs2)
    (k : At X M e cs2 fr (wSs X rest D0)) (hs : swapsWith ex (some (.Attribute a m pos')) pos.line X.env = pure false := by rfl) : At X M e cs fr (wSs X (.Assign [.Attribute a m pos'] ex pos :: rest) D0) :=
  at_fld (o := ex) (cs' := cs) hv ho hm hcl hn hlen hu.mem hu (fun x xs l => ⟨xs ++ [x], putF_new hnew l, by simp [l], fun H r rs => rs.append (.cons r .nil)⟩) k hs
/-- self.f = v, f there already -/
theorem at_fldU {ad C : Addr} {cn : Str} {ns : List Str} (i : Nat) (hv : EE X M e cs ex d cs1) (ho : EE X M e cs1 a (.ref ad) cs1) (hm : X.mg cn = some (.ref C)) (hcl : Cls X.K C) (hn : NoAttr X.K C m) (hlen : ns.length < 900) (hi : ns.idxOf? m = some i) (hu : Upd1 ad (.obj cn ns ds) (.obj cn ns (ds.set i d)) cs1 cs2)
    (k : At X M e cs2 fr (wSs X rest D0)) (hs : swapsWith ex (some (.Attribute a m pos')) pos.line X.env = pure false := by rfl) : At X M e cs fr (wSs X (.Assign [.Attribute a m pos'] ex pos :: rest) D0) :=
  at_fld (o := ex) (cs' := cs) hv ho hm hcl hn hlen hu.mem hu (fun x xs l => ⟨xs.set i x, putF_at hi l, by simp [l], fun H r rs => rs.set i r⟩) k hs
/-- for x, y in zip(a, b) -/
def pairs : List D → List D → List D
  | x :: xs, y :: ys => .tup [x, y] :: pairs xs ys
  | _, _ => []
theorem pairs_len : ∀ {xs ys : List D}, (pairs xs ys).length = min xs.length ys.length
  | x :: xs, y :: ys => by simp [pairs, pairs_len (xs := xs) (ys := ys), Nat.succ_min_succ]
  | [], _ => by simp [pairs]
  | _ :: _, [] => by simp [pairs]
theorem pairs_get : ∀ {xs ys : List D} {i : Nat} {d : D}, (pairs xs ys)[i]? = some d → ∃ x y, d = .tup [x, y] ∧ xs[i]? = some x ∧ ys[i]? = some y
  | x :: xs, y :: ys, 0, d, h => by
    simp [pairs] at h
    exact ⟨x, y, h.symm, rfl, rfl⟩
  | x :: xs, y :: ys, i + 1, d, h => by
    simp only [pairs, List.getElem?_cons_succ] at h ⊢
    exact pairs_get h
  | [], _, i, d, h => by simp [pairs] at h
  | _ :: _, [], i, d, h => by simp [pairs] at h
theorem walks_zip {H : Hp} {aa ab : Addr} {xs ys : List V} (na : ¬ M aa) (nb : ¬ M ab) (ha : H aa = some (.lst xs)) (hb : H ab = some (.lst ys)) (ra : Rs X.K X.mg M H xs ds) (rb : Rs X.K X.mg M H ys es') : Walks X M (Itz X.K aa ab) (pairs ds es') H := fun M2 H2 kp mt => by
  have h2 : SqL X.K H2 aa xs := .of (kp aa _ na ha).2
  have h3 : SqL X.K H2 ab ys := .of (kp ab _ nb hb).2
  have l1 := ra.length
  have l2 := rb.length
  refine ⟨fun i d hd => ?_, ⟨xs, ys, h2, h3, ?_⟩⟩
  · obtain ⟨x, y, rfl, hx, hy⟩ := pairs_get hd
    obtain ⟨u, hu, ru⟩ := ra.get hx
    obtain ⟨v, hv, rv⟩ := rb.get hy
    refine ⟨⟨xs, ys, u, v, h2, h3, hu, hv⟩, fun z H3 w => ?_⟩
    obtain ⟨T, x', y', rfl, hT, rfl, w1, w2⟩ := w
    have e1 := w1 xs h2
    have e2 := w2 ys h3
    rw [hu] at e1; rw [hv] at e2
    cases e1; cases e2
    exact ⟨Ext.new hT, r_newt mt hT (.cons (later kp ru) (.cons (later kp rv) .nil))⟩
  · rw [pairs_len, l1, l2]
    omega
theorem ei_zip {elts : List Expr} {kk : Nat} {tpos : Pos} (ha : EE X M e cs a (.lst ds) cs1) (hb : EE X M e cs1 b (.lst es') cs2) (hm : X.mg "zip" = none) (hg : Gl X "zip" := by rfl)
    (hs : starEach [a, b] X.env = (false, eval a X.env) :: starEach [b] X.env := by rfl) (hs2 : starEach [b] X.env = (false, eval b X.env) :: starEach [] X.env := by rfl) (hpl : (backTo pos (starEach [b] X.env)).any (·.1) = false := by rfl) : EI X M e cs (.Tuple elts kk tpos) (.Call (.Name "zip" p) [a, b] [] pos) (pairs ds es') cs2 :=
  ⟨hb.dm.trans ha.dm, _, pi_zip hg hm pa_w hs hpl, fun σ H Q S k => (a_cons ha (a_cons hb a_nil hs2) hs).k σ H _ S fun vs H1 S1 x1 r1 => by
    obtain ⟨v, u, rfl, r1, r2⟩ := rs2 r1
    obtain ⟨aa, xs, rfl, na, h1, ra⟩ := r_lst r1
    obtain ⟨ab, ys, rfl, nb, h2, rb⟩ := r_lst r2
    exact ⟨aa, ab, xs, ys, rfl, .of h1, .of h2, k _ H1 S1 x1 (walks_zip na nb h1 h2 ra rb)⟩⟩
end

/-! ### __init__ -/
section
variable {P : Program} {w : World} {K : PySem.W.Frag} {mg : Str → Option Value} {base : Heap} {ι : Type} {pre : ι → Prop} {args : ι → List D} {x qual n c : Str} {ns : List Str} {dz : ι → List D} {st : Stmt} {f : Addr} {fd : FuncData} {N ps : List Str} {k : Nat}
/-- what the body of an __init__ is shown to do; e0: the names' data when it begins -/
def BodyI (P : Program) (w : World) (K : PySem.W.Frag) (mg : Str → Option Value) (base : Heap) (qual : Str) (st : Stmt) (f : Addr) (N : List Str) (k : Nat) (c : Str) {ι : Type} (pre : ι → Prop) (e0 : ι → List D) (ns : List Str) (dz : ι → List D) : Prop :=
  ∀ (cdv : Value) (A : Around) (outer : List Env) (s : Shared) (H0 : Hp) (E : XK) (i : ι) (M : Addr → Prop) (ad : Addr) (Q : VK), pre i → Room k (A.deeper (PyProof.Rows.envOfC qual (defScope st) s.heap.objs.size f cdv)) →
    (∀ H', (∀ a, M a → H' a ≠ none) → Ext [ad] H0 H' → R K mg M H' (.ref ad) (.obj c ns (dz i)) → Q .non H') → ¬ M ad →
    At (cxOf (L2.CX P w) P w K mg base N qual (defScope st) f cdv A outer s H0 E) (fun a => M a ∨ a = ad) (some (.ref ad) :: (e0 i).map some ++ List.replicate (N.length - ((e0 i).length + 1)) none) [(ad, .obj c [] [])] [([ad], H0)]
      (wSs (cxOf (L2.CX P w) P w K mg base N qual (defScope st) f cdv A outer s H0 E) (defBody st) { nx := fun _ H' => Q .non H', rt := Q })
theorem mkr_of (hC : ∃ C, mg c = some (.ref C) ∧ Mk K C f) (F : Fun K x qual st f fd) (S : FnScope N ps (defScope st)) (hb : Binds K fd ps []) (hl : ∀ i, (args i).length + 1 = ps.length) (body : BodyI P w K mg base qual st f N k c pre args ns dz) : Mkr P w K mg base c (k + 1) (mkSp K mg c pre args ns dz) := by
  obtain ⟨C, hm, hmk⟩ := hC
  have h : FnOk P w K mg base (L2.CX P w) (k + 1) f fd ps (mkSp K mg c pre args ns dz) := F.okX S (fun vs H Q E h => by
    obtain ⟨M, i, xa, C, dx, rest, _, rfl, _, _, _, _, r, _⟩ := h
    rw [List.length_cons, r.length, hl]) fun cdv A outer s H vs Q E hr h => by
    obtain ⟨M, i, xa, C', dx, rest, hp, rfl, hm', hx, nx, mt, r, kq⟩ := h
    refine ⟨_, pss_w, ?_⟩
    have mt' : ∀ a, M a ∨ a = xa → H a ≠ none := fun a h => by
      rcases h with h | rfl
      · exact mt a h
      · rw [hx]; simp
    have S0 := sit_start (N := N) (c := [(xa, .obj c [] [])]) mt' (.cons (x := .ref xa) (d := .ref xa) (by simp [R]) r) (fun q hq => by
      rcases List.mem_singleton.mp hq with rfl
      exact ⟨.inr rfl, C', dx, [], hm', by simpa using hx, rfl, Rs.nil⟩) (by show (List.map _ [_]).Nodup; simp)
    refine body cdv A outer s H E i M xa Q hp hr kq nx _ _ S0 (fun q hq => ?_) fun q hq a ha => ?_
    · rcases List.mem_singleton.mp hq with rfl
      exact Ext.refl _ _
    · rcases List.mem_singleton.mp hq with rfl
      exact .inl (by simpa using ha)
  have h2 := h.raw (ds := []) (dvs := []) hb .nil
  exact ⟨C, f, hm, hmk, by simpa using h2⟩
/-- __init__(self, a, .., *v) -/
theorem mkr_star {heads parts : ι → List D} {pv : Str} (hC : ∃ C, mg c = some (.ref C) ∧ Mk K C f) (F : Fun K x qual st f fd) (S : FnScope N (ps ++ [pv]) (defScope st))
    (hb : ∀ (kV doc pm : Value) (an : Option Addr) (cdv ct : Value) (us rest : List Value), us.length = ps.length → bindArgs (PySem.W.fnOf x qual (defArgs st) (defBody st) (defScope st) .none kV doc pm an cdv ct) ⟨us ++ rest, []⟩ = (newTuple rest >>= fun t => pure (ps.zip us ++ [(pv, t)])))
    (hl : ∀ i, (heads i).length + 1 = ps.length) (hz : ∀ i, pre i → (parts i).length ≤ 100000) (body : BodyI P w K mg base qual st f N k c pre (fun i => heads i ++ [.tup (parts i)]) ns dz) : Mkr P w K mg base c (k + 1) (mkSp K mg c pre (fun i => heads i ++ parts i) ns dz) := by
  obtain ⟨C, hm, hmk⟩ := hC
  obtain ⟨oc, od, kV, doc, pm, an, cdv, ct, osl, rfl, lk, hcd⟩ := F.ex
  refine ⟨C, f, hm, hmk, ?_⟩
  have h := StX.fn_star (P := P) (w := w) (mg := mg) (base := base) (k := k) (CX := (L2.CX P w)) (sp := fun vs H Q E => ∃ (M : Addr → Prop) (i : ι) (xa C dx : Addr) (rest : List V), pre i ∧ vs = .ref xa :: rest ∧ mg c = some (.ref C) ∧ H xa = some (.ins C dx []) ∧ ¬ M xa ∧ (∀ a, M a → H a ≠ none) ∧ Rs K mg (fun a => M a ∨ a = xa) H rest (heads i ++ [.tup (parts i)]) ∧
    ∀ H', (∀ a, M a → H' a ≠ none) → Ext [xa] H H' → R K mg M H' (.ref xa) (.obj c ns (dz i)) → Q .non H') lk hcd S StX.cxUp (hb kV doc pm an cdv ct) fun A outer s H vs Q E hr h => by
    obtain ⟨M, i, xa, C', dx, rest, hp, rfl, hm', hx, nx, mt, r, kq⟩ := h
    have mt' : ∀ a, M a ∨ a = xa → H a ≠ none := fun a h => by
      rcases h with h | rfl
      · exact mt a h
      · rw [hx]; simp
    have S0 := sit_start (N := N) (c := [(xa, .obj c [] [])]) mt' (.cons (x := .ref xa) (d := .ref xa) (by simp [R]) r) (fun q hq => by
      rcases List.mem_singleton.mp hq with rfl
      exact ⟨.inr rfl, C', dx, [], hm', by simpa using hx, rfl, Rs.nil⟩) (by show (List.map _ [_]).Nodup; simp)
    refine ⟨wSs (cxOf (L2.CX P w) P w K mg base N qual (defScope st) f cdv A outer s H E) (defBody st), pss_w, ?_⟩
    refine body cdv A outer s H E i M xa Q hp hr kq nx _ _ S0 (fun q hq => ?_) fun q hq a ha => ?_
    · rcases List.mem_singleton.mp hq with rfl
      exact Ext.refl _ _
    · rcases List.mem_singleton.mp hq with rfl
      exact .inl (by simpa using ha)
  intro A outer s H us vs Q E hr e0 r hsp
  refine h A outer s H us vs Q E hr e0 r ?_
  obtain ⟨M, i, xa, C', dx, rest, hp, rfl, hm', hx, nx, mt, r, kq⟩ := hsp
  have hl' := hl i
  have r1 : Rs K mg (fun a => M a ∨ a = xa) H (rest.take (heads i).length) (heads i) := by simpa using r.take (heads i).length
  have r2 : Rs K mg (fun a => M a ∨ a = xa) H (rest.drop (heads i).length) (parts i) := by simpa using r.drop (heads i).length
  refine ⟨.ref xa :: rest.take (heads i).length, rest.drop (heads i).length, by simp, by simp only [List.length_cons, r1.length]; exact hl', by rw [r2.length]; exact Nat.le_trans (hz i hp) (by decide), fun p hp0 => ?_⟩
  have kp : ∀ a o, H a = some o → upd H p (.tup (rest.drop (heads i).length)) a = some o := fun a o h => by rw [upd_ne (ne_of_none h hp0)]; exact h
  have tr : ∀ a, H a ≠ none → upd H p (.tup (rest.drop (heads i).length)) a ≠ none := fun a h => by
    cases q : H a with
    | none => exact absurd q h
    | some o => rw [kp a o q]; simp
  have npx : p ≠ xa := fun z => by rw [z, hx] at hp0; cases hp0
  refine ⟨M, i, xa, C', dx, rest.take (heads i).length ++ [.ref p], hp, rfl, hm', kp _ _ hx, nx, fun a h => tr a (mt a h), ?_, fun H' mt' xt rr => kq H' mt' (fun a o h n => xt a o (kp a o h) n) rr⟩
  refine (Rs.ext (fun a o _ h => kp a o h) (fun _ n _ => n) _ r1).append (.cons ?_ .nil)
  unfold R
  exact ⟨p, _, rfl, .inl ⟨fun z => z.elim (fun z => mt p z hp0) npx, upd_same⟩, Rs.ext (fun a o _ h => kp a o h) (fun _ n _ => n) _ r2⟩
/-- the end of an __init__ -/
theorem at_endI {X : Cx} {M : Addr → Prop} {e : DE} {H0 : Hp} {D0 : Ends} {fr : Frs} {ad : Addr} {c : Str} {ns : List Str} {ds ds' : List D} (hfr : ([ad], H0) ∈ fr) (hd : ds = ds') (nm : ¬ M ad)
    (kq : ∀ H', (∀ a, M a → H' a ≠ none) → Ext [ad] H0 H' → R X.K X.mg M H' (.ref ad) (.obj c ns ds') → D0.nx [] H') (hq : ∀ σ H, D0.nx [] H → D0.nx σ H) : At X (fun a => M a ∨ a = ad) e [(ad, .obj c ns ds)] fr (wSs X [] D0) := at_nil fun σ H S x l => by
  refine hq σ H (kq H (fun a m => S.mt a (.inl m)) (x _ hfr) ?_)
  obtain ⟨_, C, dx, xs, hm, ho, hl, rs⟩ := S.cel (ad, .obj c ns ds) (by simp)
  subst hd
  unfold R
  exact ⟨ad, C, dx, xs, rfl, nm, hm, ho, hl, Rs.ext (fun a o _ h => h) (fun a n _ z => n (.inl z)) _ rs⟩
/-! methods, properties, static methods -/
theorem mth_of {args : ι → List D} {cs cs' : ι → Cs} {res : ι → D} {m : Str} (hC : ∃ C, mg c = some (.ref C) ∧ Cls K C ∧ Meth K C m f) (F : Fun K x qual st f fd) (S : FnScope N ps (defScope st)) (hb : Binds K fd ps []) (hl : ∀ i, (args i).length = ps.length) (body : Body P w K mg base qual st f N ps.length k pre args cs res cs') : Mth P w K mg base c m (k + 1) (fnSp K mg pre args cs res cs') := by
  obtain ⟨C, hm, hc, hmt⟩ := hC
  exact ⟨C, f, hm, hc, hmt, fnr_of F S hb hl body⟩
theorem prp_of {args : ι → List D} {cs cs' : ι → Cs} {res : ι → D} {m : Str} (hC : ∃ C p, mg c = some (.ref C) ∧ Cls K C ∧ PropOf K C m p f) (F : Fun K x qual st f fd) (S : FnScope N ps (defScope st)) (hb : Binds K fd ps []) (hl : ∀ i, (args i).length = ps.length) (body : Body P w K mg base qual st f N ps.length k pre args cs res cs') : Prp P w K mg base c m (k + 1) (fnSp K mg pre args cs res cs') := by
  obtain ⟨C, p, hm, hc, hp⟩ := hC
  exact ⟨C, p, f, hm, hc, hp, fnr_of F S hb hl body⟩
theorem dun_of {args : ι → List D} {cs cs' : ι → Cs} {res : ι → D} {m : Str} (hC : ∃ C, mg c = some (.ref C) ∧ PySem.W.findIn K (.ref C) m = some (some (.ref f)) ∧ PySem.W.isFn K (.ref f) = true) (F : Fun K x qual st f fd) (S : FnScope N ps (defScope st)) (hb : Binds K fd ps []) (hl : ∀ i, (args i).length = ps.length) (body : Body P w K mg base qual st f N ps.length k pre args cs res cs') : Dun P w K mg base c m (k + 1) (fnSp K mg pre args cs res cs') := by
  obtain ⟨C, hm, h1, h2⟩ := hC
  exact ⟨C, f, hm, h1, h2, fnr_of F S hb hl body⟩
theorem stc_of {args : ι → List D} {cs cs' : ι → Cs} {res : ι → D} {m : Str} (hC : ∃ C mc, mg c = some (.ref C) ∧ ClX.CRead K C mc ∧ CStm K C mc m f) (F : Fun K x qual st f fd) (S : FnScope N ps (defScope st)) (hb : Binds K fd ps []) (hl : ∀ i, (args i).length = ps.length) (body : Body P w K mg base qual st f N ps.length k pre args cs res cs') : Stc P w K mg base c m (k + 1) (fnSp K mg pre args cs res cs') := by
  obtain ⟨C, mc, hm, h1, h2⟩ := hC
  exact ⟨C, mc, f, hm, h1, h2, F.kp, fnr_of F S hb hl body⟩
end
end Od

set_option Elab.async false
set_option linter.all false
set_option maxRecDepth 100000
set_option maxHeartbeats 4000000
/-! Od10: roads that meet again, a handful of tactics' terms -/
namespace Od
open PySem L2
/-- less is known of the names -/
inductive LeD : DE → DE → Prop
  | nil : LeD [] []
  | drop {x : Option D} {e e' : DE} (h : LeD e e') : LeD (none :: e) (x :: e')
  | same {d : D} {e e' : DE} (h : LeD e e') : LeD (some d :: e) (some d :: e')
theorem LeD.get {e e' : DE} (h : LeD e e') : e.length = e'.length ∧ ∀ (i : Nat) (d : D), e[i]? = some (some d) → e'[i]? = some (some d) := by
  induction h with
  | nil => exact ⟨rfl, fun i d q => q⟩
  | drop _ ih =>
    refine ⟨by simp [ih.1], fun i d q => ?_⟩
    cases i with
    | zero => simp at q
    | succ i => simpa using ih.2 i d (by simpa using q)
  | same _ ih =>
    refine ⟨by simp [ih.1], fun i d q => ?_⟩
    cases i with
    | zero => simpa using q
    | succ i => simpa using ih.2 i d (by simpa using q)
theorem LeD.refl : ∀ {e : DE}, LeD e e
  | [] => .nil
  | none :: _ => .drop LeD.refl
  | some _ :: _ => .same LeD.refl
section
variable {X : Cx} {M : Addr → Prop} {e e1 e2 : DE} {cs cs1 cs2 : Cs} {fr : Frs} {D0 : Ends} {pos p pos' : Pos} {a b c ex : Expr} {rest st st2 : List Stmt} {d x y z : D} {ds : List D} {n : Str} {P : L2.St → Hp → Prop}
theorem Sit.le {K : PySem.W.Frag} {mg : Str → Option Value} {σ : L2.St} {H : Hp} (S : Sit K mg M σ H e cs) (h : LeD e2 e) : Sit K mg M σ H e2 cs where
  mt := S.mt
  len := S.len.trans h.get.1.symm
  env := fun i d q => S.env i d (h.get.2 i d q)
  cel := S.cel
  nd := S.nd
theorem at_go (h : At X M e2 cs2 fr P) (hl : LeD e2 e) (hc : cs = cs2) : At X M e cs fr P := fun σ H S x l => by
  subst hc
  exact h σ H (S.le hl) x l
/-- if c: st else: st2, both ways to the same place -/
theorem at_ifT {b0 : Bool} (e2 : DE) (cs2 : Cs) (hc : ET X M e cs c b0 cs1) (ht : ∀ nx, At X M e2 cs2 fr nx → b0 = true → At X M e cs1 fr (wSs X st { D0 with nx := nx })) (hf : ∀ nx, At X M e2 cs2 fr nx → b0 = false → At X M e cs1 fr (wSs X st2 { D0 with nx := nx }))
    (k : At X M e2 cs2 fr (wSs X rest D0)) : At X M e cs fr (wSs X (.If c st st2 pos :: rest) D0) := at_if hc (ht _ k) (hf _ k)
theorem at_eqE (h : At X M e2 cs fr P) (he : e = e2) : At X M e cs fr P := he ▸ h
theorem at_eqC (h : At X M e cs2 fr P) (he : cs = cs2) : At X M e cs fr P := he ▸ h
end
end Od

set_option Elab.async false
set_option linter.all false
set_option maxRecDepth 100000
set_option maxHeartbeats 4000000
/-! Fm: formulas as plain data -/
namespace Od
open PySem L2 TL PySem.Spec
inductive Op | an | orr | im
deriving DecidableEq
inductive Fm | cst (b : Bool) | le (c : Nat) | bin (o : Op) (a b : Fm)
deriving DecidableEq
def sg (c : Nat) : Str := ⟨#[c]⟩
@[simp] theorem tl_sg (c : Nat) : tl (sg c) = [c] := rfl
def Op.w : Op → Str
  | .an => "and"
  | .orr => "or"
  | .im => "if"
def Op.s : Op → Str
  | .an => " & "
  | .orr => " | "
  | .im => " -> "
def cw (b : Bool) : Str := if b then "true" else "false"
def ct (b : Bool) : Str := if b then "1" else "0"
def Fm.w : Fm → Str
  | .cst b => cw b
  | .le _ => "letter"
  | .bin o _ _ => o.w
def Fm.t : Fm → Str
  | .cst b => ct b
  | .le c => sg c
  | .bin o a b => if o = .im ∧ b = .cst false then ("-" : Str) ++ a.t else ("(" : Str) ++ a.t ++ o.s ++ b.t ++ (")" : Str)
def Fm.sz : Fm → Nat
  | .cst _ => 1
  | .le _ => 1
  | .bin _ a b => 1 + (a.sz + b.sz)
def Fm.nest : Fm → Nat
  | .cst _ => 1
  | .le _ => 1
  | .bin _ a b => 1 + max a.nest b.nest
def Fm.dep : Fm → Nat
  | .cst _ => 0
  | .le _ => 0
  | .bin o a b => (if o = .im then 1 else 0) + max a.dep b.dep
def Fm.has : Fm → Nat → Bool
  | .cst _, _ => false
  | .le c, x => decide (x = c)
  | .bin _ a b, x => a.has x || b.has x
def alpha : List Nat := (List.range 26).map (· + 97)
def Fm.l (f : Fm) : Str := ⟨(alpha.filter f.has).toArray⟩
@[simp] theorem tl_l (f : Fm) : tl f.l = alpha.filter f.has := rfl
def fnames : List Str := ["own_word", "own_parts", "own_text", "own_size", "own_nested", "own_depth", "own_letters"]
/-- the formula's object -/
def Fm.o : Fm → D
  | .cst b => .obj "Formula" fnames [.str (cw b), .lst [], .str (ct b), .int 1, .int 1, .int 0, .str (Fm.cst b).l]
  | .le c => .obj "Formula" fnames [.str "letter", .lst [.str (sg c)], .str (sg c), .int 1, .int 1, .int 0, .str (Fm.le c).l]
  | .bin o a b => .obj "Formula" fnames [.str o.w, .lst [a.o, b.o], .str (Fm.bin o a b).t, .int ((Fm.bin o a b).sz : Nat), .int ((Fm.bin o a b).nest : Nat), .int ((Fm.bin o a b).dep : Nat), .str (Fm.bin o a b).l]
def Fm.parts : Fm → List D
  | .cst _ => []
  | .le c => [.str (sg c)]
  | .bin _ a b => [a.o, b.o]
def Fm.inner : Fm → List Fm
  | .bin _ a b => [a, b]
  | _ => []
def Fm.fs (f : Fm) : List D := [.str f.w, .lst f.parts, .str f.t, .int (f.sz : Nat), .int (f.nest : Nat), .int (f.dep : Nat), .str f.l]
theorem Fm.o_eq : ∀ f : Fm, f.o = .obj "Formula" fnames f.fs
  | .cst _ => rfl
  | .le _ => rfl
  | .bin _ _ _ => rfl
/-- the law's own formula -/
def Fm.d : Fm → D
  | .cst b => .tup [.str (cw b)]
  | .le c => .tup [.str "letter", .str (sg c)]
  | .bin o a b => .tup [.str o.w, a.d, b.d]
/-- its letters are letters -/
def Fm.ok : Fm → Prop
  | .cst _ => True
  | .le c => c ∈ alpha
  | .bin _ a b => a.ok ∧ b.ok
theorem len_app (s t : Str) : (s ++ t).length = s.length + t.length := by
  rw [len_tl, len_tl, len_tl]
  show ((s.cps ++ t.cps).toList).length = _
  simp
theorem tl_app (s t : Str) : tl (s ++ t) = tl s ++ tl t := by
  show ((s.cps ++ t.cps).toList) = _
  simp
theorem Fm.t_len : ∀ f : Fm, f.t.length ≤ 6 * f.sz
  | .cst b => by cases b <;> decide +kernel
  | .le c => by show 1 ≤ 6; decide
  | .bin o a b => by
    have ha := a.t_len
    have hb := b.t_len
    unfold Fm.t Fm.sz
    split
    · rw [len_app]
      have : (("-" : Str)).length = 1 := by decide +kernel
      omega
    · rw [len_app, len_app, len_app, len_app]
      have h1 : (("(" : Str)).length = 1 := by decide +kernel
      have h2 : ((")" : Str)).length = 1 := by decide +kernel
      have h3 : o.s.length ≤ 4 := by cases o <;> decide +kernel
      omega
theorem Fm.l_len (f : Fm) : f.l.length ≤ 26 := by
  rw [len_tl, tl_l]
  exact Nat.le_trans (List.length_filter_le _ _) (by decide)
theorem Fm.sz_pos (f : Fm) : 1 ≤ f.sz := by cases f <;> simp [Fm.sz]
/-- single signs glued -/
theorem join_sg : ∀ (cs : List Nat), Txt.join "" (cs.map sg) = ⟨cs.toArray⟩ := fun cs => by
  apply ext_tl
  rw [join_eq, tl_join]
  have e0 : tl (("" : Str)) = [] := by decide +kernel
  rw [e0]
  have : ∀ cs : List Nat, joinL [] ((cs.map sg).map tl) = cs := by
    intro cs
    induction cs with
    | nil => rfl
    | cons c r ih =>
      cases r with
      | nil => rfl
      | cons d r =>
        show [c] ++ ([] ++ joinL [] (((d :: r).map sg).map tl)) = _
        rw [ih]; rfl
  rw [this]
theorem sum_len_sg (cs : List Nat) : ((cs.map sg).map (·.length)).sum = cs.length := by
  induction cs with
  | nil => rfl
  | cons c r ih =>
    simp only [List.map_cons, List.sum_cons, ih]
    show (sg c).length + _ = _
    have : (sg c).length = 1 := rfl
    rw [this]; simp; omega
theorem join_len0 (cs : List Nat) (h : cs.length ≤ 100000) : ((cs.map sg).map (·.length)).sum + (cs.map sg).length * (("" : Str)).length ≤ 16777216 := by
  have : (("" : Str)).length = 0 := by decide +kernel
  rw [sum_len_sg, this]; omega
/-- sorted single signs -/
theorem ltCps_sg (a b : Nat) : ltCps (sg a).cps.toList (sg b).cps.toList = decide (a < b) := by
  show ltCps [a] [b] = _
  unfold ltCps
  by_cases h : a < b
  · simp [h]
  · by_cases h2 : a = b
    · subst h2; simp [ltCps]
    · have : b < a := by omega
      simp [h, h2, ltCps]
theorem sorted_sg : ∀ {cs : List Nat}, PyProof.Rows.sortedS (cs.map sg) = true → cs.Pairwise (· ≤ ·)
  | [], _ => List.Pairwise.nil
  | [a], _ => by simp
  | a :: b :: r, h => by
    have h' : PyProof.Rows.risingS (sg a) ((b :: r).map sg) = true := h
    simp only [List.map_cons, PyProof.Rows.risingS, ltCps_sg, Bool.and_eq_true, Bool.not_eq_true', decide_eq_false_iff_not] at h'
    have ih : (b :: r).Pairwise (· ≤ ·) := sorted_sg (cs := b :: r) h'.2
    refine List.pairwise_cons.mpr ⟨fun x hx => ?_, ih⟩
    rcases List.mem_cons.mp hx with rfl | hx
    · omega
    · have := (List.pairwise_cons.mp ih).1 x hx
      omega
theorem map_sg_inj : ∀ {xs ys : List Nat}, xs.map sg = ys.map sg → xs = ys
  | [], [], _ => rfl
  | x :: xs, y :: ys, h => by
    simp only [List.map_cons, List.cons.injEq] at h
    have : x = y := by
      have := congrArg tl h.1
      simpa using this
    rw [this, map_sg_inj h.2]
  | [], _ :: _, h => by simp at h
  | _ :: _, [], h => by simp at h
def srt (cs : List Nat) : List Nat := cs.mergeSort (fun a b => decide (a ≤ b))
theorem srt_perm (cs : List Nat) : (srt cs).Perm cs := List.mergeSort_perm _ _
theorem srt_sorted (cs : List Nat) : (srt cs).Pairwise (· ≤ ·) := by
  have := List.pairwise_mergeSort (le := fun a b : Nat => decide (a ≤ b)) (fun a b c h1 h2 => by simp at *; omega) (fun a b => by simp; omega) cs
  exact this.imp (by simp)
theorem sorted_uniq : ∀ {xs ys : List Nat}, xs.Perm ys → xs.Pairwise (· ≤ ·) → ys.Pairwise (· ≤ ·) → xs = ys := fun p h1 h2 => p.eq_of_pairwise (fun a b _ _ h1 h2 => Nat.le_antisymm h1 h2) h1 h2
theorem perm_sg {ys : List Str} {cs : List Nat} (h : ys.Perm (cs.map sg)) : ∃ ds : List Nat, ys = ds.map sg ∧ ds.Perm cs := by
  refine ⟨ys.map fun y => (tl y).headD 0, ?_, ?_⟩
  · rw [List.map_map]
    symm
    have : ∀ y ∈ ys, (sg ∘ fun y => (tl y).headD 0) y = y := fun y hy => by
      obtain ⟨c, _, rfl⟩ := List.mem_map.mp (h.mem_iff.mp hy)
      rfl
    rw [List.map_congr_left this]; simp
  · have := h.map fun y => (tl y).headD 0
    rw [List.map_map] at this
    have e : cs.map ((fun y => (tl y).headD 0) ∘ sg) = cs := by
      have : ∀ c ∈ cs, ((fun y => (tl y).headD 0) ∘ sg) c = c := fun c _ => rfl
      rw [List.map_congr_left this]; simp
    rw [e] at this
    exact this
theorem sortS_sg {ys : List Str} {cs : List Nat} (h : ys.Perm (cs.map sg)) (s : PyProof.Rows.sortedS ys = true) : ys = (srt cs).map sg := by
  obtain ⟨ds, rfl, hp⟩ := perm_sg h
  rw [sorted_uniq (hp.trans (srt_perm cs).symm) (sorted_sg s) (srt_sorted cs)]
def strOf (cs : List Nat) : Str := ⟨cs.toArray⟩
theorem Op.w_ne (o : Op) : decide (o.w = ("letter" : Str)) = false := by cases o <;> decide +kernel
theorem cw_ne (b : Bool) : decide (cw b = ("letter" : Str)) = false := by cases b <;> decide +kernel
theorem nest_pos (f : Fm) : 1 ≤ f.nest := by cases f <;> simp [Fm.nest]
theorem cw_TF (b : Bool) : (decide (cw b = ("true" : Str)) || decide (cw b = ("false" : Str))) = true := by cases b <;> decide +kernel
/-- each sign behind the one before -/
def ascB (l : List Nat) : Bool := (List.range (l.length - 1)).all fun i => decide (l.getD i 0 < l.getD (i + 1) 0)
def letsB (l : List Nat) : Bool := (l.all fun c => decide (c ∈ alpha)) && ascB l
theorem ascB_iff : ∀ l : List Nat, ascB l = true ↔ l.Pairwise (· < ·)
  | [] => by simp [ascB]
  | [a] => by simp [ascB]
  | a :: b :: l => by
    have ih := ascB_iff (b :: l)
    have e : ascB (a :: b :: l) = (decide (a < b) && ascB (b :: l)) := by
      unfold ascB
      rw [show (a :: b :: l).length - 1 = ((b :: l).length - 1) + 1 by simp, List.range_succ_eq_map, List.all_cons, List.all_map]
      rfl
    rw [e, Bool.and_eq_true, ih, decide_eq_true_iff]
    constructor
    · intro ⟨h1, h2⟩
      refine List.pairwise_cons.mpr ⟨fun x hx => ?_, h2⟩
      rcases List.mem_cons.mp hx with e | e
      · omega
      · have := (List.pairwise_cons.mp h2).1 x e
        omega
    · intro h
      exact ⟨(List.pairwise_cons.mp h).1 b (List.mem_cons_self ..), (List.pairwise_cons.mp h).2⟩
theorem letsB_of {l : List Nat} (h1 : ∀ c ∈ l, c ∈ alpha) (h2 : l.Pairwise (· < ·)) : letsB l = true := by
  unfold letsB
  rw [(ascB_iff l).mpr h2, Bool.and_true]
  simpa using h1
theorem strOf_app (a b : List Nat) : strOf a ++ strOf b = strOf (a ++ b) := ext_tl (by rw [tl_app]; rfl)
end Od

set_option Elab.async false
set_option linter.all false
set_option maxRecDepth 100000
set_option maxHeartbeats 4000000
/-! Pt1: trees as rows and as forests; their texts; the reading of texts. -/
namespace Od
open PySem L2 TL PySem.Spec
abbrev Row := List Nat × Option Int
/-- a forest: a first tree (letters, what stands above it), the others -/
inductive Fo where
  | nil
  | cons (l : List Nat) (ks rs : Fo)
def Fo.size : Fo → Nat
  | .nil => 0
  | .cons _ ks rs => 1 + ks.size + rs.size
def Fo.dep : Fo → Nat
  | .nil => 0
  | .cons _ ks rs => max (1 + ks.dep) rs.dep
def lab (l : List Nat) : List Nat := if l = [] then [42] else l
def un (l : List Nat) : List Nat := if l = [42] then [] else l
def brk : List Nat → List Nat
  | [] => []
  | t => 91 :: (t ++ [93])
def Fo.txt : Fo → List Nat
  | .nil => []
  | .cons l ks rs => lab l ++ ((if ks.size = 0 then [] else 91 :: (ks.txt ++ [93])) ++ (if rs.size = 0 then [] else 44 :: rs.txt))
def Fo.flat : Fo → Nat → Option Int → List Row
  | .nil, _, _ => []
  | .cons l ks rs, i, p => (l, p) :: (ks.flat (i + 1) (some (i : Int)) ++ rs.flat (i + 1 + ks.size) p)
def Fo.tops : Fo → Nat → List Nat
  | .nil, _ => []
  | .cons _ ks rs, i => i :: rs.tops (i + 1 + ks.size)
theorem flat_len : ∀ (f : Fo) (i : Nat) (p : Option Int), (f.flat i p).length = f.size
  | .nil, _, _ => rfl
  | .cons l ks rs, i, p => by
    simp only [Fo.flat, Fo.size, List.length_cons, List.length_append, flat_len ks, flat_len rs]
    omega
theorem size0 {f : Fo} (h : f.size = 0) : f = .nil := by
  cases f with
  | nil => rfl
  | cons l ks rs => simp only [Fo.size] at h; omega
/-! ### the reader -/
structure Mst where
  rows : List Row
  ps : List (Option Int)
  sg : List Nat
def lastP (ps : List (Option Int)) : Option Int := ps.getLast?.getD none
def flush (s : Mst) : Mst := if s.sg = [] then s else ⟨s.rows ++ [(un s.sg, lastP s.ps)], s.ps, []⟩
/-- one sign -/
def step (s : Mst) (c : Nat) : Option Mst :=
  if c ∈ [91, 93, 44, 46] then
    let s := flush s
    if c = 91 then (if s.ps.length + 1 > 300 then none else some ⟨s.rows, s.ps ++ [some ((s.rows.length : Int) - 1)], []⟩)
    else if c = 93 ∧ 1 < s.ps.length then some ⟨s.rows, s.ps.dropLast, []⟩
    else some ⟨s.rows, s.ps, []⟩
  else some ⟨s.rows, s.ps, s.sg ++ [c]⟩
def runM : Mst → List Nat → Option Mst
  | s, [] => some s
  | s, c :: r => (step s c).bind fun s => runM s r
def mach (t : List Nat) : Option (List Row) := (runM ⟨[], [none], []⟩ (t ++ [46])).map (·.rows)
theorem runM_app : ∀ (a b : List Nat) (s : Mst), runM s (a ++ b) = (runM s a).bind fun s => runM s b
  | [], b, s => rfl
  | c :: a, b, s => by
    show (step s c).bind (fun s => runM s (a ++ b)) = ((step s c).bind fun s => runM s a).bind fun s => runM s b
    cases step s c with
    | none => rfl
    | some s' => exact runM_app a b s'
def plainC (l : List Nat) : Prop := ∀ c ∈ l, c ∉ [91, 93, 44, 46]
theorem run_plain : ∀ (l : List Nat) (rows : List Row) (ps : List (Option Int)) (s : List Nat), plainC l → runM ⟨rows, ps, s⟩ l = some ⟨rows, ps, s ++ l⟩
  | [], rows, ps, s, _ => by simp [runM]
  | c :: l, rows, ps, s, h => by
    have hc := h c (List.mem_cons_self ..)
    show (step ⟨rows, ps, s⟩ c).bind (fun s => runM s l) = _
    unfold step
    rw [if_neg hc]
    show runM ⟨rows, ps, s ++ [c]⟩ l = _
    rw [run_plain l rows ps (s ++ [c]) fun c hc => h c (List.mem_cons_of_mem _ hc)]
    simp
theorem alpha_plain {c : Nat} (h : c ∈ alpha) : c ∉ [91, 93, 44, 46] ∧ c ≠ 42 := by
  have : ∀ c ∈ alpha, c ∉ [91, 93, 44, 46] ∧ c ≠ 42 := by decide +kernel
  exact this c h
theorem lab_plain {l : List Nat} (h : ∀ c ∈ l, c ∈ alpha) : plainC (lab l) ∧ un (lab l) = l ∧ lab l ≠ [] := by
  unfold lab
  by_cases e : l = []
  · rw [if_pos e, e]
    exact ⟨by intro c hc; rcases List.mem_singleton.mp hc with rfl; decide, rfl, by simp⟩
  · rw [if_neg e]
    refine ⟨fun c hc => (alpha_plain (h c hc)).1, ?_, e⟩
    unfold un
    rw [if_neg]
    intro z
    exact (alpha_plain (h 42 (by rw [z]; simp))).2 rfl
def Fo.al : Fo → Prop
  | .nil => True
  | .cons l ks rs => (∀ c ∈ l, c ∈ alpha) ∧ ks.al ∧ rs.al
/-- what a closing sign does to a state with nothing open -/
theorem flush_lab {rows : List Row} {ps : List (Option Int)} {l : List Nat} (h : ∀ c ∈ l, c ∈ alpha) : flush ⟨rows, ps, lab l⟩ = ⟨rows ++ [(l, lastP ps)], ps, []⟩ := by
  obtain ⟨_, h2, h3⟩ := lab_plain h
  unfold flush
  rw [if_neg h3, h2]
theorem flush_nil {rows : List Row} {ps : List (Option Int)} : flush ⟨rows, ps, []⟩ = ⟨rows, ps, []⟩ := rfl
/-- a closing sign acts on what has been flushed -/
theorem step_flush {s : Mst} {c : Nat} (hc : c ∈ [91, 93, 44, 46]) : step s c = step (flush s) c := by
  have : flush (flush s) = flush s := by
    unfold flush
    by_cases h : s.sg = []
    · rw [if_pos h, if_pos h]
    · rw [if_neg h]; rfl
  unfold step
  rw [if_pos hc, if_pos hc, this]
theorem step_44 {rows : List Row} {ps : List (Option Int)} : step ⟨rows, ps, []⟩ 44 = some ⟨rows, ps, []⟩ := rfl
theorem step_46 {rows : List Row} {ps : List (Option Int)} : step ⟨rows, ps, []⟩ 46 = some ⟨rows, ps, []⟩ := rfl
theorem step_91 {rows : List Row} {ps : List (Option Int)} (h : ps.length + 1 ≤ 300) : step ⟨rows, ps, []⟩ 91 = some ⟨rows, ps ++ [some ((rows.length : Int) - 1)], []⟩ := by
  unfold step
  rw [if_pos (by decide)]
  show (if (91 : Nat) = 91 then _ else _) = _
  rw [if_pos rfl]
  show (if ps.length + 1 > 300 then none else _) = _
  rw [if_neg (by omega)]; rfl
theorem step_93 {rows : List Row} {ps : List (Option Int)} {p : Option Int} (h : 0 < ps.length) : step ⟨rows, ps ++ [p], []⟩ 93 = some ⟨rows, ps, []⟩ := by
  unfold step
  rw [if_pos (by decide)]
  show (if (93 : Nat) = 91 then _ else _) = _
  rw [if_neg (by decide)]
  show (if (93 : Nat) = 93 ∧ 1 < (ps ++ [p]).length then some (Mst.mk rows (ps ++ [p]).dropLast []) else _) = _
  rw [if_pos ⟨rfl, by simp; omega⟩, List.dropLast_concat]
theorem lastP_app (ps : List (Option Int)) (p : Option Int) : lastP (ps ++ [p]) = p := by simp [lastP]
/-- a forest is read -/
theorem run_fo : ∀ (f : Fo) (rows : List Row) (ps : List (Option Int)) (c : Nat) (rest : List Nat), f.al → 0 < f.size → 0 < ps.length → ps.length + f.dep ≤ 300 → c ∈ [93, 44, 46] →
    runM ⟨rows, ps, []⟩ (f.txt ++ c :: rest) = runM ⟨rows ++ f.flat rows.length (lastP ps), ps, []⟩ (c :: rest)
  | .nil, _, _, _, _, _, h, _, _, _ => by simp [Fo.size] at h
  | .cons l ks rs, rows, ps, c, rest, ha, _, hp, hd, hc => by
    obtain ⟨a1, a2, a3⟩ := ha
    obtain ⟨p1, p2, p3⟩ := lab_plain a1
    have hc4 : c ∈ [91, 93, 44, 46] := List.mem_cons_of_mem _ hc
    have hd1 : 1 + ks.dep ≤ max (1 + ks.dep) rs.dep := Nat.le_max_left ..
    have hd2 : rs.dep ≤ max (1 + ks.dep) rs.dep := Nat.le_max_right ..
    simp only [Fo.dep] at hd
    have tail : ∀ (rows' : List Row) (s : Mst), flush s = ⟨rows', ps, []⟩ → rows'.length = rows.length + 1 + ks.size → runM s ((if rs.size = 0 then [] else 44 :: rs.txt) ++ c :: rest) = runM ⟨rows' ++ rs.flat (rows.length + 1 + ks.size) (lastP ps), ps, []⟩ (c :: rest) := fun rows' s hs hl => by
      by_cases h0 : rs.size = 0
      · rw [if_pos h0, size0 h0]
        show (step s c).bind _ = (step (Mst.mk (rows' ++ []) ps []) c).bind _
        rw [step_flush hc4, hs, List.append_nil]
      · rw [if_neg h0]
        show (step s 44).bind (fun s => runM s (rs.txt ++ c :: rest)) = _
        rw [step_flush (by decide), hs, step_44]
        show runM ⟨rows', ps, []⟩ (rs.txt ++ c :: rest) = _
        rw [run_fo rs rows' ps c rest a3 (by omega) hp (by omega) hc, hl]
    show runM ⟨rows, ps, []⟩ ((lab l ++ ((if ks.size = 0 then [] else 91 :: (ks.txt ++ [93])) ++ (if rs.size = 0 then [] else 44 :: rs.txt))) ++ c :: rest) = _
    rw [List.append_assoc, runM_app, run_plain _ _ _ _ p1, List.nil_append]
    show runM ⟨rows, ps, lab l⟩ _ = _
    rw [List.append_assoc]
    by_cases h0 : ks.size = 0
    · rw [if_pos h0, List.nil_append, tail (rows ++ [(l, lastP ps)]) _ (flush_lab a1) (by simp [h0]), size0 h0]
      show runM ⟨(rows ++ [(l, lastP ps)]) ++ _, ps, []⟩ _ = runM ⟨rows ++ (l, lastP ps) :: ([] ++ _), ps, []⟩ _
      simp
    · rw [if_neg h0]
      show (step ⟨rows, ps, lab l⟩ 91).bind (fun s => runM s ((ks.txt ++ [93]) ++ ((if rs.size = 0 then [] else 44 :: rs.txt) ++ c :: rest))) = _
      rw [step_flush (by decide), flush_lab a1, step_91 (by omega)]
      show runM ⟨rows ++ [(l, lastP ps)], ps ++ [some (((rows ++ [(l, lastP ps)]).length : Int) - 1)], []⟩ _ = _
      rw [List.append_assoc]
      have e1 : (((rows ++ [(l, lastP ps)]).length : Int) - 1) = (rows.length : Int) := by simp
      rw [e1]
      show runM _ (ks.txt ++ 93 :: ((if rs.size = 0 then [] else 44 :: rs.txt) ++ c :: rest)) = _
      rw [run_fo ks _ _ 93 _ a2 (by omega) (by simp) (by simp; omega) (by decide), lastP_app]
      have e2 : (rows ++ [(l, lastP ps)]).length = rows.length + 1 := by simp
      rw [e2]
      show (step _ 93).bind (fun s => runM s ((if rs.size = 0 then [] else 44 :: rs.txt) ++ c :: rest)) = _
      rw [step_93 hp]
      show runM _ _ = _
      rw [tail ((rows ++ [(l, lastP ps)]) ++ ks.flat (rows.length + 1) (some (rows.length : Int))) _ flush_nil (by simp [flat_len]; omega)]
      simp [Fo.flat]
theorem mach_txt {l : List Nat} {ks : Fo} (ha : (Fo.cons l ks .nil).al) (hd : (Fo.cons l ks .nil).dep ≤ 299) : mach (Fo.cons l ks .nil).txt = some ((Fo.cons l ks .nil).flat 0 none) := by
  unfold mach
  rw [show (Fo.cons l ks .nil).txt ++ [46] = (Fo.cons l ks .nil).txt ++ 46 :: [] from rfl, run_fo _ _ _ _ _ ha (by simp [Fo.size]; omega) (by simp) (by simp; omega) (by decide)]
  rfl
/-! ### rows as a forest -/
def kidsF : List Row → Nat → Nat → List Nat
  | [], _, _ => []
  | r :: rows, s, j => if r.2 = some (j : Int) then s :: kidsF rows (s + 1) j else kidsF rows (s + 1) j
theorem kidsF_app (j : Nat) : ∀ (a b : List Row) (s : Nat), kidsF (a ++ b) s j = kidsF a s j ++ kidsF b (s + a.length) j
  | [], b, s => by simp [kidsF]
  | r :: a, b, s => by
    show (if r.2 = some (j : Int) then s :: kidsF (a ++ b) (s + 1) j else kidsF (a ++ b) (s + 1) j) = (if r.2 = some (j : Int) then s :: kidsF a (s + 1) j else kidsF a (s + 1) j) ++ _
    rw [kidsF_app j a b (s + 1)]
    have e : s + 1 + a.length = s + (r :: a).length := by simp; omega
    rw [e]
    split <;> rfl
theorem kidsF_mem (j : Nat) : ∀ (a : List Row) (s k : Nat), k ∈ kidsF a s j ↔ s ≤ k ∧ k - s < a.length ∧ ∃ r, a[k - s]? = some r ∧ r.2 = some (j : Int)
  | [], s, k => by simp [kidsF]
  | r :: a, s, k => by
    have ih := kidsF_mem j a (s + 1) k
    have key : (s + 1 ≤ k ∧ k - (s + 1) < a.length ∧ ∃ r', a[k - (s + 1)]? = some r' ∧ r'.2 = some (j : Int)) ∨ (k = s ∧ r.2 = some (j : Int)) ↔ s ≤ k ∧ k - s < (r :: a).length ∧ ∃ r', (r :: a)[k - s]? = some r' ∧ r'.2 = some (j : Int) := by
      constructor
      · rintro (⟨h1, h2, r', h3, h4⟩ | ⟨rfl, h⟩)
        · have e : k - s = (k - (s + 1)) + 1 := by omega
          refine ⟨by omega, by simp; omega, r', ?_, h4⟩
          rw [e]; simpa using h3
        · exact ⟨Nat.le_refl _, by simp, r, by simp, h⟩
      · rintro ⟨h1, h2, r', h3, h4⟩
        rcases Nat.lt_or_ge s k with h | h
        · have e : k - s = (k - (s + 1)) + 1 := by omega
          rw [e] at h3
          exact .inl ⟨h, by simp at h2; omega, r', by simpa using h3, h4⟩
        · have e : k = s := by omega
          subst e
          rw [Nat.sub_self] at h3
          simp at h3
          subst h3
          exact .inr ⟨rfl, h4⟩
    show k ∈ (if r.2 = some (j : Int) then s :: kidsF a (s + 1) j else kidsF a (s + 1) j) ↔ _
    rw [← key]
    split
    · rename_i h
      rw [List.mem_cons, ih]
      constructor
      · rintro (rfl | h1)
        · exact .inr ⟨rfl, h⟩
        · exact .inl h1
      · rintro (h1 | ⟨rfl, _⟩)
        · exact .inr h1
        · exact .inl rfl
    · rename_i h
      rw [ih]
      exact ⟨.inl, fun z => z.resolve_right fun z => h z.2⟩
abbrev kids (rows : List Row) (j : Nat) : List Nat := kidsF rows 0 j
def rowAt (rows : List Row) (j : Nat) : Row := rows[j]?.getD ([], none)
def foF (rows : List Row) : Nat → List Nat → Fo
  | 0, _ => .nil
  | n + 1, ks => ks.foldr (fun k acc => .cons (rowAt rows k).1 (foF rows n (kids rows k)) acc) .nil
theorem foF_nil (rows : List Row) (n : Nat) : foF rows n [] = .nil := by cases n <;> rfl
theorem foF_cons (rows : List Row) (n k : Nat) (ks : List Nat) : foF rows (n + 1) (k :: ks) = .cons (rowAt rows k).1 (foF rows n (kids rows k)) (foF rows (n + 1) ks) := rfl
/-- parents stand ahead -/
def Fwd (rows : List Row) : Prop := ∀ (k j : Nat), k ∈ kids rows j → j < k ∧ k < rows.length
theorem foF_more {rows : List Row} (hf : Fwd rows) : ∀ (n : Nat) (ks : List Nat), (∀ k ∈ ks, k < rows.length ∧ rows.length - k ≤ n) → foF rows (n + 1) ks = foF rows n ks
  | 0, [], _ => rfl
  | 0, k :: ks, h => by
    have := h k (List.mem_cons_self ..)
    omega
  | n + 1, [], _ => rfl
  | n + 1, k :: ks, h => by
    rw [foF_cons, foF_cons, foF_more hf (n + 1) ks fun k hk => h k (List.mem_cons_of_mem _ hk), foF_more hf n (kids rows k) fun j hj => by
      have h1 := hf j k hj
      have h2 := h k (List.mem_cons_self ..)
      omega]
def fo (rows : List Row) (ks : List Nat) : Fo := foF rows rows.length ks
theorem foF_ge {rows : List Row} (hf : Fwd rows) {ks : List Nat} {m : Nat} (h : ∀ k ∈ ks, k < rows.length ∧ rows.length - k ≤ m) : ∀ n, m ≤ n → foF rows n ks = foF rows m ks := by
  intro n hn
  induction n with
  | zero => rw [show m = 0 by omega]
  | succ n ih =>
    rcases Nat.lt_or_ge m (n + 1) with h1 | h1
    · rw [foF_more hf n ks fun k hk => ⟨(h k hk).1, by have := (h k hk).2; omega⟩, ih (by omega)]
    · rw [show m = n + 1 by omega]
theorem fo_nil (rows : List Row) : fo rows [] = .nil := foF_nil ..
theorem fo_cons {rows : List Row} (hf : Fwd rows) {k : Nat} {ks : List Nat} (hk : k < rows.length) : fo rows (k :: ks) = .cons (rowAt rows k).1 (fo rows (kids rows k)) (fo rows ks) := by
  unfold fo
  obtain ⟨n, hn⟩ : ∃ n, rows.length = n + 1 := ⟨rows.length - 1, by omega⟩
  rw [hn, foF_cons, ← foF_more hf n (kids rows k) fun j hj => by
    have := hf j k hj
    omega]
/-! ### the round trip -/
theorem kids_flat : ∀ (f : Fo) (i : Nat) (p : Option Int) (j : Nat), (p ≠ some (j : Int)) → (j < i ∨ i + f.size ≤ j) → kidsF (f.flat i p) i j = []
  | .nil, _, _, _, _, _ => rfl
  | .cons l ks rs, i, p, j, hp, hj => by
    simp only [Fo.size] at hj
    show (if p = some (j : Int) then _ else kidsF (ks.flat (i + 1) (some (i : Int)) ++ rs.flat (i + 1 + ks.size) p) (i + 1) j) = []
    rw [if_neg hp, kidsF_app, flat_len, kids_flat ks (i + 1) _ j (by simp; omega) (by omega), kids_flat rs (i + 1 + ks.size) p j hp (by omega)]
    rfl
theorem kids_tops : ∀ (f : Fo) (i : Nat) (j : Nat), j < i → kidsF (f.flat i (some (j : Int))) i j = f.tops i
  | .nil, _, _, _ => rfl
  | .cons l ks rs, i, j, hj => by
    show (if some (j : Int) = some (j : Int) then i :: kidsF (ks.flat (i + 1) (some (i : Int)) ++ rs.flat (i + 1 + ks.size) (some (j : Int))) (i + 1) j else _) = i :: rs.tops (i + 1 + ks.size)
    rw [if_pos rfl, kidsF_app, flat_len, kids_flat ks (i + 1) _ j (by simp; omega) (by omega), kids_tops rs (i + 1 + ks.size) j (by omega)]
    rfl
def PLt (p : Option Int) (i : Nat) : Prop := ∀ q, p = some q → q < (i : Int)
theorem PLt.ne {p : Option Int} {i j : Nat} (h : PLt p i) (hj : i ≤ j) : p ≠ some (j : Int) := fun z => by
  have := h _ z
  omega
theorem round {rows : List Row} (hf : Fwd rows) : ∀ (f : Fo) (pre post : List Row) (p : Option Int), rows = pre ++ f.flat pre.length p ++ post → PLt p pre.length → (∀ j, pre.length ≤ j → j < pre.length + f.size → kidsF pre 0 j = [] ∧ kidsF post (pre.length + f.size) j = []) → fo rows (f.tops pre.length) = f
  | .nil, _, _, _, _, _, _ => fo_nil _
  | .cons l ks rs, pre, post, p, h, hp, hk => by
    have hlen : pre.length < rows.length := by
      rw [h]; simp [Fo.flat]
    show fo rows (pre.length :: rs.tops (pre.length + 1 + ks.size)) = _
    have hsz : (Fo.cons l ks rs).size = 1 + ks.size + rs.size := rfl
    have e1 : rows = (pre ++ [(l, p)]) ++ ks.flat (pre ++ [(l, p)]).length (some (pre.length : Int)) ++ (rs.flat (pre.length + 1 + ks.size) p ++ post) := by
      rw [h]
      simp [Fo.flat]
    have e2 : rows = (pre ++ [(l, p)] ++ ks.flat (pre.length + 1) (some (pre.length : Int))) ++ rs.flat (pre ++ [(l, p)] ++ ks.flat (pre.length + 1) (some (pre.length : Int))).length p ++ post := by
      have z : (pre ++ [(l, p)] ++ ks.flat (pre.length + 1) (some (pre.length : Int))).length = pre.length + 1 + ks.size := by simp [flat_len]; omega
      rw [z, h]
      simp [Fo.flat]
    have hl1 : (pre ++ [(l, p)]).length = pre.length + 1 := by simp
    have hl2 : (pre ++ [(l, p)] ++ ks.flat (pre.length + 1) (some (pre.length : Int))).length = pre.length + 1 + ks.size := by simp [flat_len]; omega
    have hrow : rowAt rows pre.length = (l, p) := by
      unfold rowAt
      rw [h]
      simp [Fo.flat]
    have hkids : kids rows pre.length = ks.tops (pre.length + 1) := by
      have h0 := hk pre.length (Nat.le_refl _) (by omega)
      unfold kids
      rw [e1, kidsF_app, kidsF_app, kidsF_app, kidsF_app, h0.1, hl1, flat_len]
      have z1 : kidsF [(l, p)] (0 + pre.length) pre.length = [] := by
        show (if p = some (pre.length : Int) then _ else _) = _
        rw [if_neg (hp.ne (Nat.le_refl _))]; rfl
      have z2 := kids_tops ks (pre.length + 1) pre.length (by omega)
      have z3 := kids_flat rs (pre.length + 1 + ks.size) p pre.length (hp.ne (Nat.le_refl _)) (by omega)
      have z4 : kidsF post (pre.length + (1 + ks.size + rs.size)) pre.length = [] := h0.2
      have q1 : 0 + (pre.length + 1) = pre.length + 1 := by omega
      have q2 : 0 + ((pre ++ [(l, p)]) ++ ks.flat (pre.length + 1) (some (pre.length : Int))).length = pre.length + 1 + ks.size := by rw [hl2]; omega
      have q3 : pre.length + 1 + ks.size + rs.size = pre.length + (1 + ks.size + rs.size) := by omega
      rw [z1, q1, q2, z2, z3, q3, z4]
      simp
    rw [fo_cons hf hlen, hrow, hkids]
    have r1 := round hf ks (pre ++ [(l, p)]) _ (some (pre.length : Int)) e1 (fun q hq => by
      rw [hl1]
      have := Option.some.inj hq
      omega) fun j h1 h2 => by
      rw [hl1] at h1 h2 ⊢
      have h0 := hk j (by omega) (by omega)
      refine ⟨?_, ?_⟩
      · rw [kidsF_app, h0.1]
        show [] ++ (if p = some (j : Int) then _ else _) = _
        rw [if_neg (hp.ne (by omega))]; rfl
      · rw [kidsF_app, flat_len, kids_flat rs _ p j (hp.ne (by omega)) (by omega)]
        have q3 : pre.length + 1 + ks.size + rs.size = pre.length + (1 + ks.size + rs.size) := by omega
        rw [q3]
        exact h0.2
    have r2 := round hf rs _ post p e2 (fun q hq => by
      rw [hl2]
      have := hp q hq
      omega) fun j h1 h2 => by
      rw [hl2] at h1 h2 ⊢
      have h0 := hk j (by omega) (by omega)
      refine ⟨?_, ?_⟩
      · rw [kidsF_app, kidsF_app, h0.1, hl1]
        have z1 : kidsF [(l, p)] (0 + pre.length) j = [] := by
          show (if p = some (j : Int) then _ else _) = _
          rw [if_neg (hp.ne (by omega))]; rfl
        have q1 : 0 + (pre.length + 1) = pre.length + 1 := by omega
        rw [z1, q1, kids_flat ks (pre.length + 1) _ j (by simp; omega) (by omega)]
        rfl
      · have q3 : pre.length + 1 + ks.size + rs.size = pre.length + (1 + ks.size + rs.size) := by omega
        rw [q3]
        exact h0.2
    rw [hl1] at r1
    rw [hl2] at r2
    rw [r1, r2]
end Od

set_option Elab.async false
set_option linter.all false
set_option maxRecDepth 100000
set_option maxHeartbeats 4000000
/-! Pt2: right rows; how many nodes a tree has; growing at the right. -/
namespace Od
open PySem L2 TL PySem.Spec
theorem lets_iff {l : List Nat} : letsB l = true ↔ (∀ c ∈ l, c ∈ alpha) ∧ l.Pairwise (· < ·) := by
  unfold letsB
  rw [Bool.and_eq_true, ascB_iff]
  simp
theorem asc_len : ∀ (l : List Nat) (a b : Nat), l.Pairwise (· < ·) → (∀ x ∈ l, a ≤ x ∧ x < b) → a + l.length ≤ max a b
  | [], a, b, _, _ => by simp; omega
  | x :: l, a, b, p, h => by
    rw [List.pairwise_cons] at p
    have h1 := h x (List.mem_cons_self ..)
    have ih := asc_len l (x + 1) b p.2 fun y hy => ⟨p.1 y hy, (h y (List.mem_cons_of_mem _ hy)).2⟩
    simp only [List.length_cons]
    omega
theorem lets_len {l : List Nat} (h : letsB l = true) : l.length ≤ 26 := by
  obtain ⟨h1, h2⟩ := lets_iff.mp h
  have h3 : ∀ c ∈ alpha, 97 ≤ c ∧ c < 123 := by decide +kernel
  have := asc_len l 97 123 h2 fun x hx => h3 x (h1 x hx)
  omega
def okAt (pre : List Row) (r : Row) : Bool :=
  letsB r.1 && (match r.2 with
    | none => pre.isEmpty
    | some q => decide (0 ≤ q) && (decide (q < (pre.length : Int)) && (rowAt pre q.toNat).1.all fun c => decide (c ∈ r.1)))
def okRows : List Row → List Row → Bool
  | _, [] => true
  | pre, r :: rest => okAt pre r && okRows (pre ++ [r]) rest
theorem okRows_app : ∀ (a b pre : List Row), okRows pre (a ++ b) = (okRows pre a && okRows (pre ++ a) b)
  | [], b, pre => by simp [okRows]
  | r :: a, b, pre => by
    show (okAt pre r && okRows (pre ++ [r]) (a ++ b)) = _
    rw [okRows_app a b (pre ++ [r])]
    simp [okRows, Bool.and_assoc]
theorem okRows_get : ∀ (rows pre : List Row) {k : Nat} {r : Row}, okRows pre rows = true → rows[k]? = some r → okAt (pre ++ rows.take k) r = true
  | [], _, _, _, _, h => by simp at h
  | r0 :: rows, pre, 0, r, h, hk => by
    simp at hk
    subst hk
    simp [okRows] at h
    simpa using h.1
  | r0 :: rows, pre, k + 1, r, h, hk => by
    simp [okRows] at h
    have := okRows_get rows (pre ++ [r0]) (k := k) h.2 (by simpa using hk)
    simpa using this
theorem okAt_some {pre : List Row} {l : List Nat} {q : Int} (h : okAt pre (l, some q) = true) : letsB l = true ∧ 0 ≤ q ∧ q < (pre.length : Int) ∧ ∀ c ∈ (rowAt pre q.toNat).1, c ∈ l := by
  simp only [okAt, Bool.and_eq_true, decide_eq_true_eq, List.all_eq_true] at h
  exact ⟨h.1, h.2.1, h.2.2.1, h.2.2.2⟩
theorem okAt_none {pre : List Row} {l : List Nat} (h : okAt pre (l, none) = true) : letsB l = true ∧ pre = [] := by
  simpa [okAt] using h
theorem okAt_mk {pre : List Row} {l : List Nat} {q : Nat} (h1 : letsB l = true) (h2 : q < pre.length) (h3 : ∀ c ∈ (rowAt pre q).1, c ∈ l) : okAt pre (l, some (q : Int)) = true := by
  simp only [okAt, Bool.and_eq_true, decide_eq_true_eq, List.all_eq_true]
  exact ⟨h1, by omega, by omega, by simpa using h3⟩
theorem okAt_lets {pre : List Row} {r : Row} (h : okAt pre r = true) : letsB r.1 = true := by
  unfold okAt at h
  rw [Bool.and_eq_true] at h
  exact h.1
theorem rowAt_get {rows : List Row} {k : Nat} {r : Row} (h : rows[k]? = some r) : rowAt rows k = r := by unfold rowAt; rw [h]; rfl
theorem rowAt_app {a b : List Row} {k : Nat} (h : k < a.length) : rowAt (a ++ b) k = rowAt a k := by
  unfold rowAt
  rw [List.getElem?_append_left h]
theorem rowAt_take {a : List Row} {k j : Nat} (h : j < k) : rowAt (a.take k) j = rowAt a j := by
  unfold rowAt
  rw [List.getElem?_take, if_pos h]
theorem ok_fwd {rows : List Row} (h : okRows [] rows = true) : Fwd rows := fun k j hk => by
  obtain ⟨_, h1, r, h2, h3⟩ := (kidsF_mem j rows 0 k).mp hk
  rw [Nat.sub_zero] at h1 h2
  have h4 := okRows_get rows [] h h2
  obtain ⟨l, p⟩ := r
  dsimp only at h3
  subst h3
  obtain ⟨_, h5, h6, _⟩ := okAt_some h4
  simp only [List.nil_append, List.length_take] at h6
  exact ⟨by omega, h1⟩
/-- what a kid keeps -/
theorem ok_kid {rows : List Row} (h : okRows [] rows = true) {k j : Nat} (hk : k ∈ kids rows j) : ∀ c ∈ (rowAt rows j).1, c ∈ (rowAt rows k).1 := by
  have hf := ok_fwd h k j hk
  obtain ⟨_, h1, r, h2, h3⟩ := (kidsF_mem j rows 0 k).mp hk
  rw [Nat.sub_zero] at h1 h2
  have h4 := okRows_get rows [] h h2
  obtain ⟨l, p⟩ := r
  dsimp only at h3
  subst h3
  obtain ⟨_, h5, h6, h7⟩ := okAt_some h4
  rw [rowAt_get h2]
  intro c hc
  refine h7 c ?_
  rw [List.nil_append, show (j : Int).toNat = j by omega, rowAt_take hf.1]
  exact hc
theorem ok_lets {rows : List Row} (h : okRows [] rows = true) {k : Nat} : letsB (rowAt rows k).1 = true := by
  unfold rowAt
  cases e : rows[k]? with
  | none => rfl
  | some r => exact okAt_lets (okRows_get rows [] h e)
/-- a forest whose letters grow -/
def okF : List Nat → Fo → Prop
  | _, .nil => True
  | m, .cons l ks rs => letsB l = true ∧ (∀ c ∈ m, c ∈ l) ∧ okF l ks ∧ okF m rs
theorem okF_al : ∀ (f : Fo) (m : List Nat), okF m f → f.al
  | .nil, _, _ => trivial
  | .cons l ks rs, m, ⟨h1, _, h2, h3⟩ => ⟨(lets_iff.mp h1).1, okF_al ks l h2, okF_al rs m h3⟩
theorem okF_flat : ∀ (f : Fo) (m : List Nat) (pre : List Row) (q : Nat), okF m f → q < pre.length → (rowAt pre q).1 = m → okRows pre (f.flat pre.length (some (q : Int))) = true
  | .nil, _, _, _, _, _, _ => rfl
  | .cons l ks rs, m, pre, q, ⟨h1, h2, h3, h4⟩, hq, hm => by
    have r1 := okF_flat ks l (pre ++ [(l, some (q : Int))]) pre.length h3 (by simp) (by unfold rowAt; simp)
    have e1 : (pre ++ [(l, some (q : Int))]).length = pre.length + 1 := by simp
    rw [e1] at r1
    have r2 := okF_flat rs m (pre ++ [(l, some (q : Int))] ++ ks.flat (pre.length + 1) (some (pre.length : Int))) q h4 (by simp; omega) (by rw [rowAt_app (by simp; omega), rowAt_app hq, hm])
    have e2 : (pre ++ [(l, some (q : Int))] ++ ks.flat (pre.length + 1) (some (pre.length : Int))).length = pre.length + 1 + ks.size := by simp [flat_len]; omega
    rw [e2] at r2
    show (okAt pre (l, some (q : Int)) && okRows (pre ++ [(l, some (q : Int))]) (ks.flat (pre.length + 1) (some (pre.length : Int)) ++ rs.flat (pre.length + 1 + ks.size) (some (q : Int)))) = true
    rw [okAt_mk h1 hq (by rw [hm]; exact h2), okRows_app, r1, r2]
    rfl
theorem okF_tree {l : List Nat} {ks : Fo} {m : List Nat} (h : okF m (.cons l ks .nil)) : okRows [] ((Fo.cons l ks .nil).flat 0 none) = true := by
  obtain ⟨h1, _, h3, _⟩ := h
  have r1 := okF_flat ks l [(l, none)] 0 h3 (by simp) (by simp [rowAt])
  show (okAt [] (l, none) && okRows [(l, none)] (ks.flat 1 (some (0 : Int)) ++ [])) = true
  rw [List.append_nil]
  have r1' : okRows [(l, none)] (ks.flat 1 (some (0 : Int))) = true := r1
  rw [r1']
  simp [okAt, h1]
theorem ok_foF {rows : List Row} (h : okRows [] rows = true) : ∀ (n : Nat) (ks : List Nat) (m : List Nat), (∀ k ∈ ks, ∀ c ∈ m, c ∈ (rowAt rows k).1) → okF m (foF rows n ks)
  | 0, _, _, _ => trivial
  | n + 1, [], _, _ => trivial
  | n + 1, k :: ks, m, hk => by
    rw [foF_cons]
    exact ⟨ok_lets h, hk k (List.mem_cons_self ..), ok_foF h n (kids rows k) _ fun j hj => ok_kid h hj, ok_foF h (n + 1) ks m fun j hj => hk j (List.mem_cons_of_mem _ hj)⟩
/-! ### how many -/
def inR (n : Nat) : Option Int → Bool
  | none => false
  | some q => decide (0 ≤ q) && decide (q < (n : Int))
def tot (n : Nat) (g : Nat → Nat) : List Row → Nat → Nat
  | [], _ => 0
  | r :: seg, s => (if inR n r.2 then g s else 0) + tot n g seg (s + 1)
theorem sum_zero (n : Nat) : ((List.range n).map fun _ => 0).sum = 0 := by
  induction n with
  | zero => rfl
  | succ n ih => rw [List.range_succ, List.map_append, List.sum_append, ih]; rfl
theorem sum_add (n : Nat) (a b : Nat → Nat) : ((List.range n).map fun j => a j + b j).sum = ((List.range n).map a).sum + ((List.range n).map b).sum := by
  induction n with
  | zero => rfl
  | succ n ih =>
    rw [List.range_succ]
    simp only [List.map_append, List.sum_append, ih, List.map_cons, List.map_nil, List.sum_cons, List.sum_nil]
    omega
theorem sum_one (n : Nat) (p : Option Int) (x : Nat) : ((List.range n).map fun (j : Nat) => if p = some (j : Int) then x else 0).sum = if inR n p then x else 0 := by
  induction n with
  | zero =>
    cases p with
    | none => rfl
    | some q =>
      have : inR 0 (some q) = false := by simp [inR]
      rw [this]; rfl
  | succ n ih =>
    rw [List.range_succ, List.map_append, List.sum_append, ih]
    simp only [List.map_cons, List.map_nil, List.sum_cons, List.sum_nil, Nat.add_zero]
    cases p with
    | none => rfl
    | some q =>
      by_cases h1 : q = (n : Int)
      · subst h1
        have e1 : inR n (some (n : Int)) = false := by simp [inR]
        have e2 : inR (n + 1) (some (n : Int)) = true := by simp [inR]; omega
        rw [e1, e2]; simp
      · have e : inR (n + 1) (some q) = inR n (some q) := by
          simp only [inR]
          congr 1
          rw [Bool.eq_iff_iff, decide_eq_true_iff, decide_eq_true_iff]
          omega
        rw [e, if_neg (fun z => h1 (Option.some.inj z)), Nat.add_zero]
theorem sum_kids (n : Nat) (g : Nat → Nat) : ∀ (seg : List Row) (s : Nat), ((List.range n).map fun j => ((kidsF seg s j).map g).sum).sum = tot n g seg s
  | [], s => sum_zero n
  | r :: seg, s => by
    have e : (fun j => ((kidsF (r :: seg) s j).map g).sum) = fun (j : Nat) => (if r.2 = some (j : Int) then g s else 0) + ((kidsF seg (s + 1) j).map g).sum := by
      funext j
      show ((if r.2 = some (j : Int) then s :: kidsF seg (s + 1) j else kidsF seg (s + 1) j).map g).sum = _
      split <;> simp
    rw [e, sum_add, sum_one, sum_kids n g seg (s + 1)]
    rfl
theorem tot_all (n : Nat) (g : Nat → Nat) : ∀ (seg : List Row) (s : Nat), (∀ r ∈ seg, inR n r.2 = true) → tot n g seg s = ((List.range' s seg.length).map g).sum
  | [], s, _ => rfl
  | r :: seg, s, h => by
    show (if inR n r.2 then g s else 0) + tot n g seg (s + 1) = _
    rw [h r (List.mem_cons_self ..), if_pos rfl, tot_all n g seg (s + 1) fun r hr => h r (List.mem_cons_of_mem _ hr)]
    simp [List.range'_succ]
theorem size_foF {rows : List Row} (hf : Fwd rows) : ∀ (ks : List Nat), (∀ k ∈ ks, k < rows.length) → (fo rows ks).size = (ks.map fun k => (fo rows [k]).size).sum
  | [], _ => by rw [fo_nil]; rfl
  | k :: ks, h => by
    have hk := h k (List.mem_cons_self ..)
    rw [fo_cons hf hk, List.map_cons, List.sum_cons, fo_cons hf hk, fo_nil]
    show 1 + (fo rows (kids rows k)).size + (fo rows ks).size = (1 + (fo rows (kids rows k)).size + 0) + _
    rw [size_foF hf ks fun j hj => h j (List.mem_cons_of_mem _ hj)]; rfl
theorem fo_size {rows : List Row} (h : okRows [] rows = true) (hne : rows ≠ []) : (fo rows [0]).size = rows.length := by
  have hf := ok_fwd h
  obtain ⟨r0, rest, rfl⟩ := List.exists_cons_of_ne_nil hne
  generalize hW : (fun k => (fo (r0 :: rest) [k]).size) = W
  have w1 : ∀ j, j < (r0 :: rest).length → W j = 1 + ((kids (r0 :: rest) j).map W).sum := fun j hj => by
    rw [← hW]
    show (fo (r0 :: rest) [j]).size = _
    rw [fo_cons hf hj, fo_nil]
    show 1 + (fo (r0 :: rest) (kids (r0 :: rest) j)).size + 0 = _
    rw [size_foF hf _ fun k hk => (hf k j hk).2]
    rfl
  have w2 : ((List.range (r0 :: rest).length).map W).sum = (r0 :: rest).length + ((List.range (r0 :: rest).length).map fun j => ((kids (r0 :: rest) j).map W).sum).sum := by
    have e : (List.range (r0 :: rest).length).map W = (List.range (r0 :: rest).length).map fun j => 1 + ((kids (r0 :: rest) j).map W).sum := by
      apply List.map_congr_left
      intro j hj
      exact w1 j (List.mem_range.mp hj)
    rw [e, sum_add]
    congr 1
    have : ∀ n : Nat, ((List.range n).map fun _ => 1).sum = n := fun n => by
      induction n with
      | zero => rfl
      | succ n ih => rw [List.range_succ, List.map_append, List.sum_append, ih]; rfl
    exact this _
  have h0 := okRows_get (r0 :: rest) [] h (k := 0) (r := r0) rfl
  have hall : ∀ r ∈ rest, inR (r0 :: rest).length r.2 = true := fun r hr => by
    obtain ⟨i, hi, rfl⟩ := List.mem_iff_getElem.mp hr
    have h1 := okRows_get (r0 :: rest) [] h (k := i + 1) (r := rest[i]) (by simp [List.getElem?_eq_getElem hi])
    generalize rest[i] = r at h1
    obtain ⟨l, p⟩ := r
    cases p with
    | none =>
      have := (okAt_none h1).2
      simp at this
    | some q =>
      obtain ⟨_, h2, h3, _⟩ := okAt_some h1
      simp only [List.nil_append, List.length_take, List.length_cons] at h3
      simp only [inR, List.length_cons, Bool.and_eq_true, decide_eq_true_eq]
      omega
  have hr0 : r0.2 = none := by
    obtain ⟨l, p⟩ := r0
    cases p with
    | none => rfl
    | some q =>
      obtain ⟨_, h2, h3, _⟩ := okAt_some h0
      simp at h3
      omega
  rw [sum_kids] at w2
  have ht : tot (r0 :: rest).length W (r0 :: rest) 0 = ((List.range' 1 rest.length).map W).sum := by
    show (if inR (r0 :: rest).length r0.2 then W 0 else 0) + tot (r0 :: rest).length W rest (0 + 1) = _
    rw [hr0, tot_all _ _ _ _ hall]
    simp [inR]
  rw [ht, List.range_eq_range', show (r0 :: rest).length = rest.length + 1 from rfl, List.range'_succ, List.map_cons, List.sum_cons] at w2
  have e : W 0 = (fo (r0 :: rest) [0]).size := by rw [← hW]
  rw [← e, show (r0 :: rest).length = rest.length + 1 from rfl]
  simp only [Nat.zero_add] at w2
  omega
/-! ### bounds -/
theorem dep_size : ∀ f : Fo, f.dep ≤ f.size
  | .nil => Nat.le_refl _
  | .cons l ks rs => by
    have h1 := dep_size ks
    have h2 := dep_size rs
    simp only [Fo.dep, Fo.size]
    omega
theorem txt_len : ∀ (f : Fo) (m : List Nat), okF m f → f.txt.length ≤ 29 * f.size
  | .nil, _, _ => by simp [Fo.txt, Fo.size]
  | .cons l ks rs, m, ⟨h1, _, h3, h4⟩ => by
    have i1 := txt_len ks l h3
    have i2 := txt_len rs m h4
    have i3 := lets_len h1
    have i4 : (lab l).length ≤ 26 := by
      unfold lab
      split
      · simp
      · exact i3
    simp only [Fo.txt, Fo.size, List.length_append]
    have i5 : (if ks.size = 0 then ([] : List Nat) else 91 :: (ks.txt ++ [93])).length ≤ ks.txt.length + 2 := by
      split <;> simp
    have i6 : (if rs.size = 0 then ([] : List Nat) else 44 :: rs.txt).length ≤ rs.txt.length + 1 := by
      split <;> simp
    omega
/-! ### growing at the right -/
def addR (l : List Nat) : Fo → Nat → Fo
  | .nil, _ => .cons l .nil .nil
  | .cons a ks rs, d => if rs.size = 0 then (match d with
      | 0 => .cons a ks (.cons l .nil .nil)
      | d + 1 => .cons a (addR l ks d) .nil) else .cons a ks (addR l rs d)
def pathR : Fo → Nat → List Nat
  | .nil, _ => []
  | .cons _ ks rs, i => if rs.size = 0 then i :: pathR ks (i + 1) else pathR rs (i + 1 + ks.size)
theorem addR_spec (l : List Nat) : ∀ (f : Fo) (d i : Nat) (p : Option Int), d ≤ (pathR f i).length →
    (addR l f d).flat i p = f.flat i p ++ [(l, if d = 0 then p else some (((pathR f i).getD (d - 1) 0 : Nat) : Int))] ∧ pathR (addR l f d) i = (pathR f i).take d ++ [i + f.size]
  | .nil, d, i, p, hd => by
    have : d = 0 := by simpa [pathR] using hd
    subst this
    exact ⟨rfl, rfl⟩
  | .cons a ks rs, d, i, p, hd => by
    by_cases h0 : rs.size = 0
    · have e := size0 h0
      subst e
      have ep : pathR (.cons a ks .nil) i = i :: pathR ks (i + 1) := rfl
      rw [ep] at hd ⊢
      cases d with
      | zero =>
        refine ⟨?_, ?_⟩
        · show (a, p) :: (ks.flat (i + 1) (some (i : Int)) ++ ((l, p) :: ([] ++ []))) = ((a, p) :: (ks.flat (i + 1) (some (i : Int)) ++ [])) ++ [(l, p)]
          simp
        · show [i + 1 + ks.size] = [] ++ [i + (1 + ks.size + 0)]
          simp; omega
      | succ d =>
        obtain ⟨h1, h2⟩ := addR_spec l ks d (i + 1) (some (i : Int)) (by simpa using hd)
        refine ⟨?_, ?_⟩
        · show (a, p) :: ((addR l ks d).flat (i + 1) (some (i : Int)) ++ []) = ((a, p) :: (ks.flat (i + 1) (some (i : Int)) ++ [])) ++ [(l, some (((i :: pathR ks (i + 1)).getD d 0 : Nat) : Int))]
          rw [h1]
          cases d with
          | zero => simp
          | succ d => simp
        · show i :: pathR (addR l ks d) (i + 1) = (i :: pathR ks (i + 1)).take (d + 1) ++ [i + (1 + ks.size + 0)]
          rw [h2]
          simp; omega
    · have ep : pathR (.cons a ks rs) i = pathR rs (i + 1 + ks.size) := by show (if rs.size = 0 then _ else _) = _; rw [if_neg h0]
      have ea : addR l (.cons a ks rs) d = .cons a ks (addR l rs d) := by show (if rs.size = 0 then _ else _) = _; rw [if_neg h0]
      rw [ep] at hd ⊢
      obtain ⟨h1, h2⟩ := addR_spec l rs d (i + 1 + ks.size) p hd
      rw [ea]
      have hz : (addR l rs d).size ≠ 0 := by
        have := congrArg List.length h1
        rw [flat_len, List.length_append, List.length_singleton] at this
        omega
      refine ⟨?_, ?_⟩
      · show (a, p) :: (ks.flat (i + 1) (some (i : Int)) ++ (addR l rs d).flat (i + 1 + ks.size) p) = ((a, p) :: (ks.flat (i + 1) (some (i : Int)) ++ rs.flat (i + 1 + ks.size) p)) ++ _
        rw [h1]; simp
      · show (if (addR l rs d).size = 0 then _ else pathR (addR l rs d) (i + 1 + ks.size)) = _ ++ [i + (1 + ks.size + rs.size)]
        rw [if_neg hz, h2]
        congr 2
        omega
/-- one tree -/
def one? : Fo → Prop
  | .cons _ _ .nil => True
  | _ => False
theorem addR_one (l : List Nat) {f : Fo} (h : one? f) (d : Nat) : one? (addR l f (d + 1)) := by
  cases f with
  | nil => exact h.elim
  | cons a ks rs =>
    cases rs with
    | nil => exact trivial
    | cons _ _ _ => exact h.elim
/-- the rows of a tree as a forest -/
theorem fo_flat {f : Fo} (h1 : one? f) (hf : Fwd (f.flat 0 none)) : fo (f.flat 0 none) [0] = f := by
  cases f with
  | nil => exact h1.elim
  | cons a ks rs =>
    cases rs with
    | cons _ _ _ => exact h1.elim
    | nil => exact round hf (.cons a ks .nil) [] [] none (by simp) (fun q hq => by cases hq) fun j _ _ => ⟨rfl, rfl⟩
end Od

set_option Elab.async false
set_option linter.all false
set_option maxRecDepth 100000
set_option maxHeartbeats 4000000
/-! Pt3: texts of rows, joined; bounds. -/
namespace Od
open PySem L2 TL PySem.Spec
theorem fo_le {rows : List Row} (h : okRows [] rows = true) : ∀ (n k : Nat), k < n → k < rows.length → (fo rows [k]).size ≤ rows.length
  | 0, _, hn, _ => by omega
  | n + 1, k, hn, hk => by
    have hf := ok_fwd h
    rcases Nat.lt_or_ge k n with h1 | h1
    · exact fo_le h n k h1 hk
    cases k with
    | zero => exact Nat.le_of_eq (fo_size h (by intro z; rw [z] at hk; simp at hk))
    | succ k =>
      obtain ⟨q, hq, hkq⟩ : ∃ q, q < k + 1 ∧ k + 1 ∈ kids rows q := by
        have hr : rows[k + 1]? = some (rowAt rows (k + 1)) := by
          unfold rowAt
          rw [List.getElem?_eq_getElem hk]; rfl
        have ho := okRows_get rows [] h hr
        generalize rowAt rows (k + 1) = r at hr ho
        obtain ⟨l, p⟩ := r
        cases p with
        | none =>
          have := congrArg List.length (okAt_none ho).2
          rw [List.nil_append, List.length_take] at this
          have h3 : min (k + 1) rows.length = 0 := this
          omega
        | some q =>
          obtain ⟨_, h2, h3, _⟩ := okAt_some ho
          rw [List.nil_append, List.length_take] at h3
          refine ⟨q.toNat, by omega, (kidsF_mem _ rows 0 (k + 1)).mpr ⟨by omega, by simpa using hk, _, by simpa using hr, ?_⟩⟩
          show some q = some _
          congr 1
          omega
      have hq2 : q < rows.length := by omega
      have i1 := fo_le h n q (by omega) hq2
      rw [fo_cons hf hq2, fo_nil] at i1
      have i2 : (fo rows [k + 1]).size ≤ (fo rows (kids rows q)).size := by
        rw [size_foF hf (kids rows q) fun j hj => (hf j q hj).2]
        obtain ⟨a, b, e⟩ := List.append_of_mem hkq
        rw [e]
        simp
        omega
      have i3 : (Fo.cons (rowAt rows q).1 (fo rows (kids rows q)) .nil).size = 1 + (fo rows (kids rows q)).size + 0 := rfl
      omega
theorem fo_okF {rows : List Row} (h : okRows [] rows = true) (ks : List Nat) : okF [] (fo rows ks) := ok_foF h _ ks [] fun k hk c hc => by cases hc
theorem txt_nil {f : Fo} (h : f.size = 0) : f.txt = [] := by rw [size0 h]; rfl
/-- the kids' texts, a comma between -/
theorem join_fo {rows : List Row} (hf : Fwd rows) : ∀ ks : List Nat, (∀ k ∈ ks, k < rows.length) → joinL [44] (ks.map fun k => (fo rows [k]).txt) = (fo rows ks).txt
  | [], _ => by rw [fo_nil]; rfl
  | [k], _ => rfl
  | k :: k2 :: ks, h => by
    have hk := h k (List.mem_cons_self ..)
    have ih := join_fo hf (k2 :: ks) fun j hj => h j (List.mem_cons_of_mem _ hj)
    have hk2 := h k2 (List.mem_cons_of_mem _ (List.mem_cons_self ..))
    show (fo rows [k]).txt ++ ([44] ++ joinL [44] ((k2 :: ks).map fun k => (fo rows [k]).txt)) = _
    have hz : (fo rows (k2 :: ks)).size ≠ 0 := by
      rw [fo_cons hf hk2]
      show 1 + _ + _ ≠ 0
      omega
    rw [ih, fo_cons hf hk, fo_cons (ks := k2 :: ks) hf hk, fo_nil]
    show (lab _ ++ ((if _ then [] else _) ++ (if (0 : Nat) = 0 then [] else _))) ++ ([44] ++ (fo rows (k2 :: ks)).txt) = lab _ ++ ((if _ then [] else _) ++ (if (fo rows (k2 :: ks)).size = 0 then [] else 44 :: (fo rows (k2 :: ks)).txt))
    rw [if_neg hz]
    simp
theorem txt_cp : ∀ (f : Fo) (m : List Nat), okF m f → ∀ c ∈ f.txt, c < 128
  | .nil, _, _, c, hc => by cases hc
  | .cons l ks rs, m, ⟨h1, _, h3, h4⟩, c, hc => by
    have hl : ∀ c ∈ lab l, c < 128 := fun c hc => by
      unfold lab at hc
      split at hc
      · rcases List.mem_singleton.mp hc with rfl; decide
      · have h5 : ∀ c ∈ alpha, c < 128 := by decide +kernel
        exact h5 c ((lets_iff.mp h1).1 c hc)
    have hc' : c ∈ lab l ++ ((if ks.size = 0 then [] else 91 :: (ks.txt ++ [93])) ++ (if rs.size = 0 then [] else 44 :: rs.txt)) := hc
    rcases List.mem_append.mp hc' with h | h
    · exact hl c h
    rcases List.mem_append.mp h with h | h
    · split at h
      · cases h
      · rcases List.mem_cons.mp h with rfl | h
        · decide
        rcases List.mem_append.mp h with h | h
        · exact txt_cp ks l h3 c h
        · rcases List.mem_singleton.mp h with rfl; decide
    · split at h
      · cases h
      · rcases List.mem_cons.mp h with rfl | h
        · decide
        · exact txt_cp rs m h4 c h
theorem shaped_strs {l : List Str} (h : ∀ s ∈ l, ∀ c ∈ tl s, c < 1114112) : PySem.SeqAt.shaped (.list (l.map PyData.str)) = true := by
  have h1 : ∀ l : List Str, (∀ s ∈ l, ∀ c ∈ tl s, c < 1114112) → PyData.canLayAll0 (l.map PyData.str) = true := by
    intro l
    induction l with
    | nil => intro _; simp [PyData.canLayAll0]
    | cons a l ih =>
      intro h
      simp only [List.map_cons, PyData.canLayAll0, Bool.and_eq_true]
      refine ⟨?_, ih fun s hs => h s (List.mem_cons_of_mem _ hs)⟩
      have := h a (List.mem_cons_self ..)
      have h5 : ∀ (i : Nat) (x : i < a.cps.size), a.cps[i] < 1114112 := fun i x => this _ (by show a.cps[i] ∈ a.cps.toList; simp)
      simpa [PyData.canLay0, PyData.strOk] using h5
  have h2 : ∀ l : List Str, PyData.depthAll (l.map PyData.str) = 0 := by
    intro l
    induction l with
    | nil => simp [PyData.depthAll]
    | cons a l ih => simp only [List.map_cons, PyData.depthAll, PyData.depth, ih]; decide
  unfold PySem.SeqAt.shaped
  rw [Bool.and_eq_true]
  exact ⟨by simpa [PyData.canLay0] using h1 l h, by simp only [PyData.depth, h2]; decide⟩
theorem len_sum (ts : List (List Nat)) : (ts.map List.length).sum ≤ (joinL [44] ts).length := by
  induction ts with
  | nil => simp
  | cons t ts ih =>
    cases ts with
    | nil => simp [joinL]
    | cons u ts =>
      have : joinL [44] (t :: u :: ts) = t ++ ([44] ++ joinL [44] (u :: ts)) := rfl
      rw [this]
      simp only [List.map_cons, List.sum_cons, List.length_append, List.length_singleton] at ih ⊢
      omega
theorem fo_dep {rows : List Row} (hf : Fwd rows) : ∀ ks : List Nat, (∀ k ∈ ks, k < rows.length) → ∀ k ∈ ks, (fo rows [k]).dep ≤ (fo rows ks).dep
  | [], _, k, h => by cases h
  | a :: ks, h, k, hk => by
    have ha := h a (List.mem_cons_self ..)
    rw [fo_cons (ks := ks) hf ha]
    rcases List.mem_cons.mp hk with rfl | hk
    · rw [fo_cons hf ha, fo_nil]
      show max (1 + _) 0 ≤ max (1 + _) _
      omega
    · have := fo_dep hf ks (fun j hj => h j (List.mem_cons_of_mem _ hj)) k hk
      show _ ≤ max (1 + _) (fo rows ks).dep
      omega
end Od

set_option Elab.async false
set_option linter.all false
set_option maxRecDepth 100000
set_option maxHeartbeats 4000000
/-! Od11: comprehensions over lists of known shape -/
namespace Od
open PySem L2
section
variable {X : Cx} {M M' : Addr → Prop} {e : DE} {cs cs1 cs2 cs3 : Cs} {pos p pos' apos : Pos} {tg a b c ex o : Expr} {es : List Expr} {d x y z : D} {ds : List D} {n m : Str} {k j : Nat} {α : Type}
theorem outs_mapM (xs : List α) (f : α → D) : outs (fun _ => true) (fun i => ((xs[i]?).map f).getD .non) xs.length = xs.map f := by
  unfold outs
  rw [List.filter_eq_self.mpr fun _ _ => rfl]
  apply List.ext_getElem?
  intro i
  by_cases hi : i < xs.length
  · simp [hi]
  · simp [hi]
theorem rev_ind {p : List α → Prop} (h0 : p []) (h1 : ∀ l a, p l → p (l ++ [a])) : ∀ l, p l := by
  intro l
  have h : ∀ r : List α, p r.reverse := fun r => by
    induction r with
    | nil => exact h0
    | cons a r ih => rw [List.reverse_cons]; exact h1 _ _ ih
  simpa using h l.reverse
theorem outs_filM (xs : List α) (q : α → Bool) (f : α → D) : outs (fun i => ((xs[i]?).map q).getD false) (fun i => ((xs[i]?).map f).getD .non) xs.length = (xs.filter q).map f := by
  induction xs using rev_ind with
  | h0 => rfl
  | h1 l a ih =>
    have h1 : ∀ i, i < l.length → (l ++ [a])[i]? = l[i]? := fun i hi => List.getElem?_append_left hi
    have h2 : (l ++ [a])[l.length]? = some a := by simp
    have e : outs (fun i => (((l ++ [a])[i]?).map q).getD false) (fun i => (((l ++ [a])[i]?).map f).getD .non) l.length = outs (fun i => ((l[i]?).map q).getD false) (fun i => ((l[i]?).map f).getD .non) l.length := by
      unfold outs
      have hf : (List.range l.length).filter (fun i => (((l ++ [a])[i]?).map q).getD false) = (List.range l.length).filter (fun i => ((l[i]?).map q).getD false) := by
        apply List.filter_congr
        intro i hi
        rw [h1 i (List.mem_range.mp hi)]
      rw [hf]
      apply List.map_congr_left
      intro i hi
      rw [h1 i (List.mem_range.mp (List.mem_filter.mp hi).1)]
    rw [List.length_append]
    show outs _ _ (l.length + 1) = _
    by_cases hq : q a = true
    · rw [outs_yes (by simp [h2, hq]), e, ih, h2]
      simp [hq]
    · rw [outs_no (by simp [h2, hq]), e, ih]
      simp [hq]
/-- [elt for tg in iter], what is walked of known shape -/
theorem e_lcM {scope : Scope} (own : List (Str × Nat)) {iter elt : Expr} {ef : D → DE} {P : D → Prop} (xs : List α) (g f : α → D) (hi : EI X M e cs tg iter (xs.map g) cs1) (ht : CTg X scope (own.map (·.2)) e tg ef P) (hP : ∀ x ∈ xs, P (g x)) (hn : xs.length ≤ 100000)
    (turn : ∀ x ∈ xs, ∀ (M' : Addr → Prop), (∀ a, M a → M' a) → ∀ (s : Shared) (H : Hp) (C : Addr) (cl : List (Str × Addr)) (fp : List Addr), EE (blkOf X scope s H C cl fp) M' (ef (g x)) cs1 elt (f x) cs1)
    (ok : BlkOk X.N X.env.scope scope own) (hN : X.N.Nodup) (hc : X.calm = true := by rfl) (hs : ∀ x, foldedSetIterable iter X.env x = pure x := by intro _; rfl) :
    EE X M e cs (.ListComp elt [⟨tg, iter, [], 0⟩] scope pos) (.lst (xs.map f)) cs1 where
  dm := hi.dm
  k := fun σ H Q S k => by
    have at_ : ∀ (i : Nat) (d : D), (xs.map g)[i]? = some d → ∃ x, xs[i]? = some x ∧ x ∈ xs ∧ d = g x := fun i d h => by
      rw [List.getElem?_map] at h
      cases q : xs[i]? with
      | none => rw [q] at h; cases h
      | some x => rw [q] at h; exact ⟨x, rfl, List.mem_of_getElem? q, (Option.some.inj h).symm⟩
    obtain ⟨t, h1, h2, _⟩ := lc_core' (pos := pos) (elt := elt) (ifs := []) hi ht (fun d hd => by
      obtain ⟨x, hx, rfl⟩ := List.mem_map.mp hd
      exact hP x hx) (fun _ => cs1) (fun _ => cs1) (fun _ => true) (fun i => ((xs[i]?).map f).getD .non) rfl (fun _ => rfl) (fun _ => rfl) (by simpa using hn) tYes (fun _ _ _ _ _ => pts_nil) (fun i d hd M' hM σ H Q S k => k H S (Ext.refl _ _))
      (fun i d hd _ M' hM s H C cl fp => by
        obtain ⟨x, q, hx, rfl⟩ := at_ i d hd
        rw [q]
        exact turn x hx M' hM s H C cl fp) (fun i d hd h => by cases h) hc hN ok hs
    refine we_of h1 (h2 σ H Q S fun v H' S' x' r' => k v H' S' x' ?_)
    rw [List.length_map, outs_mapM] at r'
    exact r'
/-- [elt for tg in iter if c] -/
theorem e_lcFM {scope : Scope} (own : List (Str × Nat)) {iter elt c : Expr} {ef : D → DE} {P : D → Prop} (xs : List α) (g : α → D) (q : α → Bool) (f : α → D) (hi : EI X M e cs tg iter (xs.map g) cs1) (ht : CTg X scope (own.map (·.2)) e tg ef P) (hP : ∀ x ∈ xs, P (g x)) (hn : xs.length ≤ 100000)
    (test : ∀ x ∈ xs, ∀ (M' : Addr → Prop), (∀ a, M a → M' a) → ∀ (s : Shared) (H : Hp) (C : Addr) (cl : List (Str × Addr)) (fp : List Addr), ET (blkOf X scope s H C cl fp) M' (ef (g x)) cs1 c (q x) cs1)
    (turn : ∀ x ∈ xs, q x = true → ∀ (M' : Addr → Prop), (∀ a, M a → M' a) → ∀ (s : Shared) (H : Hp) (C : Addr) (cl : List (Str × Addr)) (fp : List Addr), EE (blkOf X scope s H C cl fp) M' (ef (g x)) cs1 elt (f x) cs1)
    (ok : BlkOk X.N X.env.scope scope own) (hN : X.N.Nodup) (hc : X.calm = true := by rfl) (hs : ∀ x, foldedSetIterable iter X.env x = pure x := by intro _; rfl) :
    EE X M e cs (.ListComp elt [⟨tg, iter, [c], 0⟩] scope pos) (.lst ((xs.filter q).map f)) cs1 where
  dm := hi.dm
  k := fun σ H Q S k => by
    have at_ : ∀ (i : Nat) (d : D), (xs.map g)[i]? = some d → ∃ x, xs[i]? = some x ∧ x ∈ xs ∧ d = g x := fun i d h => by
      rw [List.getElem?_map] at h
      cases q : xs[i]? with
      | none => rw [q] at h; cases h
      | some x => rw [q] at h; exact ⟨x, rfl, List.mem_of_getElem? q, (Option.some.inj h).symm⟩
    obtain ⟨t, h1, h2, _⟩ := lc_core' (pos := pos) (elt := elt) (ifs := [c]) hi ht (fun d hd => by
      obtain ⟨x, hx, rfl⟩ := List.mem_map.mp hd
      exact hP x hx) (fun _ => cs1) (fun _ => cs1) (fun i => ((xs[i]?).map q).getD false) (fun i => ((xs[i]?).map f).getD .non) rfl (fun _ => rfl) (fun _ => rfl) (by simpa using hn)
      (fun σ H Q => ∀ (s : Shared) (H0 : Hp) (C : Addr) (cl : List (Str × Addr)) (fp : List Addr), wT (blkOf X scope s H0 C cl fp) c σ H Q) (fun s H C cl fp => pts_one ⟨fun pins s1 σ H1 Q I h => h s H C cl fp pins s1 I⟩)
      (fun i d hd M' hM σ H Q S k s0 H0 C cl fp => by
        obtain ⟨x, q1, hx, rfl⟩ := at_ i d hd
        simp only [q1, Option.map_some, Option.getD_some] at k
        exact (test x hx M' hM s0 H0 C cl fp).k σ H Q S k)
      (fun i d hd hk M' hM s H C cl fp => by
        obtain ⟨x, q1, hx, rfl⟩ := at_ i d hd
        simp only [q1, Option.map_some, Option.getD_some] at hk ⊢
        exact turn x hx hk M' hM s H C cl fp) (fun i d hd h => rfl) hc hN ok hs
    refine we_of h1 (h2 σ H Q S fun v H' S' x' r' => k v H' S' x' ?_)
    rw [List.length_map, outs_filM] at r'
    exact r'
theorem e_join {s : Str} {ts : List Str} (h : (ts.map (·.length)).sum + ts.length * s.length ≤ 16777216) (ho : EE X M e cs o (.str s) cs1) (ha : EE X M e cs1 a (.lst (ts.map D.str)) cs2)
    (h1 : ∀ r, MtR X "str.join" r → PE X (.Call (.Attribute o "join" apos) [a] [] pos) (tM1 r (wE X o) (wE X a)) := by intro r hr; exact pe_m1 PySem.F.slot_str_join PySem.F.type_str_join hr pe_w pe_w) : EE X M e cs (.Call (.Attribute o "join" apos) [a] [] pos) (.str (Txt.join s ts)) cs2 :=
  e_strm (sd_joinL h) ho ha PySem.F.slot_str_join PySem.F.type_str_join h1
end
end Od

set_option Elab.async false
set_option linter.all false
set_option maxRecDepth 100000
set_option maxHeartbeats 4000000
/-! Od12: defs that hand out a new list, which its caller may change -/
namespace Od
open PySem L2
/-- called with args: a new list of ds -/
def fnSpN (K : PySem.W.Frag) (mg : Str → Option Value) {ι : Type} (pre : ι → Prop) (args : ι → List D) (ds : ι → List D) : Sp := fun vs H Q _ =>
  ∃ (M : Addr → Prop) (i : ι), pre i ∧ (∀ a, M a → H a ≠ none) ∧ Rs K mg M H vs (args i) ∧
    ∀ p H', H p = none → (∀ a, M a → H' a ≠ none) → Ext [] H H' → (∃ xs, H' p = some (.lst xs) ∧ Rs K mg (fun a => M a ∨ a = p) H' xs (ds i)) → Q (.ref p) H'
section
variable {P : Program} {w : World} {K : PySem.W.Frag} {mg : Str → Option Value} {base : Heap} {ι : Type} {pre : ι → Prop} {args ds : ι → List D} {x qual n : Str} {st : Stmt} {f : Addr} {fd : FuncData} {N ps : List Str} {k : Nat}
theorem dfnN_of (F : Fun K x qual st f fd) (hm : mg n = some (.ref f)) (S : FnScope N ps (defScope st)) (hb : Binds K fd ps []) (hl : ∀ i, (args i).length = ps.length)
    (body : ∀ (cdv : Value) (A : Around) (outer : List Env) (s : Shared) (H0 : Hp) (E : XK) (i : ι) (M : Addr → Prop) (Q : VK), pre i → Room k (A.deeper (PyProof.Rows.envOfC qual (defScope st) s.heap.objs.size f cdv)) →
      (∀ p H', H0 p = none → (∀ a, M a → H' a ≠ none) → Ext [] H0 H' → (∃ xs, H' p = some (.lst xs) ∧ Rs K mg (fun a => M a ∨ a = p) H' xs (ds i)) → Q (.ref p) H') →
      At (cxOf (L2.CX P w) P w K mg base N qual (defScope st) f cdv A outer s H0 E) M ((args i).map some ++ List.replicate (N.length - (args i).length) none) [] [([], H0)]
        (wSs (cxOf (L2.CX P w) P w K mg base N qual (defScope st) f cdv A outer s H0 E) (defBody st) { nx := fun _ H' => Q .non H', rt := Q })) : Dfn P w K mg base n (k + 1) (fnSpN K mg pre args ds) := by
  have h : FnOk P w K mg base (L2.CX P w) (k + 1) f fd ps (fnSpN K mg pre args ds) := F.okX S (fun vs H Q E h => by
    obtain ⟨M, i, _, _, r, _⟩ := h
    rw [r.length, hl]) fun cdv A outer s H vs Q E hr h => by
    obtain ⟨M, i, hp, mt, r, kq⟩ := h
    refine ⟨_, pss_w, ?_⟩
    refine body cdv A outer s H E i M Q hp hr kq _ _ (sit_start mt r (by simp) (by simp)) (fun q hq => ?_) fun q hq a ha => by simp at ha
    rcases List.mem_singleton.mp hq with rfl
    exact Ext.refl _ _
  have h2 := h.raw (ds := []) (dvs := []) hb .nil
  exact ⟨f, hm, F.kp, by simpa using h2⟩
end
section
variable {X : Cx} {M : Addr → Prop} {e : DE} {cs cs1 : Cs} {fr : Frs} {D0 : Ends} {pos p pos' : Pos} {a ex : Expr} {es : List Expr} {rest : List Stmt} {d : D} {ds : List D} {n x : Str} {k : Nat}
/-- return [..], the new list -/
theorem at_endN {H0 : Hp} {ds' : List D} (ha : EA X M e [] es ds []) (hd : ds = ds') (hl : ds.length ≤ 100000) (hfr : ([], H0) ∈ fr)
    (kq : ∀ p H', H0 p = none → (∀ a, M a → H' a ≠ none) → Ext [] H0 H' → (∃ xs, H' p = some (.lst xs) ∧ Rs X.K X.mg (fun a => M a ∨ a = p) H' xs ds') → D0.rt (.ref p) H') : At X M e [] fr (wSs X (.Return (some (.List es pos')) pos :: rest) D0) := fun σ H S x l =>
  wss_of (pss_cons (ps_ret (pe_lst pa_w)) pss_w) (ha.k σ H _ S fun vs H1 S1 x1 r1 => ⟨by rw [r1.length]; exact Nat.le_trans hl (by decide), fun q hq => by
    have x2 : Ext [] H0 H1 := (x _ hfr).trans x1
    have hn : H0 q = none := by
      cases z : H0 q with
      | none => rfl
      | some o => rw [x2 q o z (by simp)] at hq; cases hq
    refine kq q _ hn (fun b mb => ?_) (x2.trans (Ext.new hq)) ⟨vs, upd_same, ?_⟩
    · by_cases h : b = q
      · subst h; rw [upd_same]; simp
      · rw [upd_ne h]; exact S1.mt b mb
    · subst hd
      exact Rs.ext (fun b o _ h => by rw [upd_ne (ne_of_none h hq)]; exact h) (fun b n h z => z.elim n fun z => h (z ▸ hq)) _ r1⟩)
/-- x = f(..), a new list that may change from here on -/
theorem at_setN {ι : Type} {pre : ι → Prop} {args dz : ι → List D} {dx : List D} (i : Nat) (F : Dfn X.prog X.w X.K X.mg X.base n k (fnSpN X.K X.mg pre args dz)) (hr : Room k X.A) (ha : EA X M e cs (a :: es) dx cs) (j : ι) (hp : pre j) (hds : dx = args j)
    (kk : ∀ q, At X (fun b => M b ∨ b = q) (e.set i (some (.ref q))) ((q, .lst (dz j)) :: cs) fr (wSs X rest D0)) (hN : X.N.Nodup) (hi : X.N[i]? = some x := by rfl) (hx : Loc X.env.scope x := by first | exact .inl rfl | exact .inr rfl) (hg : Gl X n := by rfl)
    (hs : swapsWith (.Call (.Name n p) (a :: es) [] pos) (some (.Name x pos')) pos.line X.env = pure false := by rfl) (hf : X.fn x = true ∨ X.env.scope.names.lookup x = some .local := by first | exact .inl rfl | exact .inr rfl)
    (hdb : (n == ("__debug__" : Str)) = false := by decide) (he : starEach (a :: es) X.env = (false, eval a X.env) :: starEach es X.env := by rfl) (hpl : (backTo pos (starEach es X.env)).any (·.1) = false := by rfl)
    {spos : Pos} (hs2 : swapsWith (.Call (.Name n p) (a :: es) [] pos) (some (.Name x pos')) spos.line X.env = pure false := by rfl) : At X M e cs fr (wSs X (.Assign [.Name x pos'] (.Call (.Name n p) (a :: es) [] pos) spos :: rest) D0) := fun σ H S xx l => by
  obtain ⟨f, hm, hk, F⟩ := F.ex
  refine wss_of (pss_cons (ps_set hN hi hx (pe_callR (E := E0) F hr hg hm hk passL pa_w hdb he hpl) hs2 hf) pss_w) (ha.k σ H _ S fun vs H1 S1 x1 r1 => ?_)
  subst hds
  refine ⟨M, j, hp, S1.mt, r1, fun q H' hq mt xt ⟨xs, hxs, rs⟩ => ?_⟩
  have kp : ∀ b o, H1 b = some o → H' b = some o := fun b o h => xt b o h (by simp)
  have nm : ∀ b, H1 b ≠ none → b ≠ q := fun b h z => h (z ▸ hq)
  have mr : ∀ b, ¬ M b → H1 b ≠ none → ¬ (M b ∨ b = q) := fun b h1 h2 z => z.elim h1 (nm b h2)
  have S2 : Sit X.K X.mg (fun b => M b ∨ b = q) σ H' e ((q, .lst (dz j)) :: cs) := by
    refine ⟨fun b mb => ?_, S1.len, fun i d hd => ?_, fun c hc => ?_, ?_⟩
    · rcases mb with mb | rfl
      · exact mt b mb
      · rw [hxs]; simp
    · obtain ⟨v, e1, r⟩ := S1.env i d hd
      exact ⟨v, e1, R.ext (fun b o _ h => kp b o h) mr _ r⟩
    · rcases List.mem_cons.mp hc with rfl | hc
      · exact ⟨.inr rfl, xs, hxs, rs⟩
      · obtain ⟨m, c2⟩ := S1.cel c hc
        exact ⟨.inl m, c2.ext (fun b o _ h => kp b o h) mr fun o h => kp _ o h⟩
    · show (q :: cs.map (·.1)).Nodup
      refine List.nodup_cons.mpr ⟨fun z => ?_, S1.nd⟩
      obtain ⟨c, hc, e⟩ := List.mem_map.mp z
      exact (S1.cel c hc).2.ne (e ▸ hq)
  refine kk q _ H' (S2.set i (by simp [R])) ?_ ?_
  · exact ext_on (ext_on xx l x1) l (xt.mono (by simp))
  · intro f0 hf0 b hb
    rcases List.mem_cons.mp hb with rfl | hb
    · by_cases h : b ∈ f0.1
      · exact .inl h
      · right
        cases z : f0.2 b with
        | none => rfl
        | some o =>
          have := (ext_on xx l x1) f0 hf0 b o z h
          rw [this] at hq; cases hq
    · exact l f0 hf0 b hb
end
section
variable {P : Program} {w : World} {K : PySem.W.Frag} {mg : Str → Option Value} {base : Heap} {ι : Type} {pre : ι → Prop} {args : ι → List D} {cs cs' : ι → Cs} {res : ι → D} {x qual n : Str} {st : Stmt} {f : Addr} {fd : FuncData} {N ps : List Str} {k : Nat}
theorem fnok_of (F : Fun K x qual st f fd) (S : FnScope N ps (defScope st)) (hl : ∀ i, (args i).length = ps.length) (body : Body P w K mg base qual st f N ps.length k pre args cs res cs') : FnOk P w K mg base (L2.CX P w) (k + 1) f fd ps (fnSp K mg pre args cs res cs') :=
  F.okX S (fun vs H Q E h => by
    obtain ⟨M, i, _, _, r, _⟩ := h
    rw [r.length, hl]) fun cdv A outer s H vs Q E hr h => by
    obtain ⟨M, i, hp, mt, r, hc, nd, kq⟩ := h
    refine ⟨_, pss_w, ?_⟩
    refine body cdv A outer s H E i M Q hp hr kq _ _ (sit_start mt r hc nd) (fun q hq => ?_) fun q hq a ha => ?_
    · rcases List.mem_singleton.mp hq with rfl
      exact Ext.refl _ _
    · rcases List.mem_singleton.mp hq with rfl
      exact .inl ha
end
end Od

set_option Elab.async false
set_option linter.all false
set_option maxRecDepth 100000
set_option maxHeartbeats 4000000
/-! Od13: operators of two own instances, !=, str, repr; instances that change: made, asked, stored -/
namespace PySem.W
open PySem PySem.Spec PySem.Calls PyProof.Rows
section
variable {prog : Program} {w : World} {M : Model} {A : Around} {E : Value → Shared → Prop} {s : Shared} {K : Frag} {x y C L f : Addr} {h₀ : Heap} {m : Str → Option Value} {ox oy : Obj} {od od2 : Option Obj}
theorem odBin {op : Operator} {Q : Value → Shared → Prop} (F : Fr h₀ L s.heap m) (X₀ : K.In h₀) (I : InstAt s.heap x ox C od) (I2 : InstAt s.heap y oy C od2) (hc : selfFirst K C = true) (hs : findIn K (.ref C) (PySem.dunder op.info.2) = some (some (.ref f))) (hf : isFn K (.ref f) = true)
    (h : wpAny (model prog w) A (call (.ref f) [.ref x, .ref y]) (CmpBack Q) E s) : wpAny (model prog w) A (binaryOp op (.ref x) (.ref y)) Q E s := by
  have X := X₀.keeps F.keep; obtain ⟨cd, rest, hcd, hm⟩ := ksp_first hc
  rcases hi : op.info with ⟨sym, nm'⟩; rw [hi] at hs; dsimp only at hs
  have one := ksp_try X I hs hf h; obtain ⟨hh, g, d, tt, os⟩ := s
  have La : Looks (model prog w) hh (typeOf (.ref x)) (.ref C) := I.type; have Lb : Looks (model prog w) hh (typeOf (.ref y)) (.ref C) := I2.type
  have Lc : Looks (model prog w) hh (fillsNumberSlot (.ref C) nm') true := fills_K X hcd hm hs
  simp only [binaryOp, hi]; refine wpAny_holding (wpAny_bind ?_); unfold binaryOp1
  refine wpAny_bind (La.at (wpAny_bind (Lb.at (wpAny_bind (Lc.at ?_)))))
  have he : (Value.ref C == Value.ref C) = true := by simp
  simp only [he, if_true, Bool.and_false, Bool.false_and, Bool.false_eq_true, if_false, Bool.not_false, Bool.true_and]
  ksp_lk
  refine wpAny_mono one (fun r s' hr' => ?_) fun _ _ e => e
  obtain ⟨v, rfl, hq⟩ := hr'
  ksp_lk
  exact hq
open Builtin in
theorem odNe {b : Value} {Q : Value → Shared → Prop} (hu : A.units < cLine) (hu1 : A.in1.units < cLine) (Fh : Fr h₀ L s.heap m) (X₀ : K.In h₀) (I : InstAt s.heap x ox C od) (hb : Looks (model prog w) s.heap (typeOf b) (.ref C)) (hm : mroIn K C (.type "object") = some true)
    (hs : findIn K (.ref C) "__ne__" = some (some (.builtin "object.__ne__"))) (he : findIn K (.ref C) "__eq__" = some (some (.ref f))) (hf : isFn K (.ref f) = true)
    (h : wpAny (model prog w) A.in1 (call (.ref f) [.ref x, b]) (fun v s' => ∃ r, v = .bool r ∧ Q (.bool (!r)) s') E s) : wpAny (model prog w) A (richCompare .NotEq (.ref x) b) Q E s := by
  have X := X₀.keeps Fh.keep
  have cal : wpAny (model prog w) A (call (.builtin "object.__ne__") [.ref x, b]) (fun v s' => ∃ r, v = .bool r ∧ Q (.bool r) s') E s := by
    refine wpAny_call (codeAny_call_builtin F.cmp_object.ne.plain F.cmpEntry_ne (check_slot (i := "object.__ne__") (owner := "object") (n := "__ne__") F.cmpKind_ne F.cmpSplit_ne (I.type.andThen (looks_mroIn X hm)) (F.cmpArgs_ne _ _) ?_))
    unfold Builtin.«object.__ne__»; refine wpAny_bind (m := slotArgs "__ne__" 1 _) (wpAny_pure ?_); refine wpAny_bind (m := cRoomFor _ _) (wpAny_cRoomFor hu1 ?_)
    refine wpAny_bind (m := callSpecialIfBound? (.ref x) (Str.ofString "__eq__") _) (ifBound_K X I he hf (wpAny_mono h (fun v s' hq => ?_) fun _ _ y => y))
    obtain ⟨r, rfl, q⟩ := hq
    refine wpAny_bind (wpAny_truthy_bool (wpAny_pure ⟨_, rfl, q⟩))
  have one : wpAny (model prog w) A (tryCompare (.ref x) "__ne__" b) (fun r s' => ∃ v, r = some v ∧ Q v s') E s := by
    unfold tryCompare; refine wpAny_bind ?_; simp only [callSpecialIfBound?, bindSpecialIfBound?]
    refine wpAny_holding (wpAny_bind (wpAny_bind (wpAny_bind (I.type.here ((looks_findIn X hs).here ?_)))))
    simp only [F.cmp_object.ne.bind]
    refine wpAny_bind (wpAny_askSetting (wpAny_ite ?_))
    have fin : wpAny (model prog w) A (call (.builtin "object.__ne__") ([.ref x] ++ [b]) >>= fun v => pure (some v)) (fun r s' => wpAny (model prog w) A (match r with | some .notImplemented | none => pure none | some v => pure (some v)) (fun r s' => ∃ v, r = some v ∧ Q v s') E s') E s :=
      wpAny_bind (wpAny_mono cal (fun v s' hq => by obtain ⟨r, rfl, q⟩ := hq; exact wpAny_pure (wpAny_pure ⟨_, rfl, q⟩)) fun _ _ z => z)
    split
    · exact wpAny_bind (wpAny_pure (wpAny_pure (by exact fin)))
    · exact wpAny_tryCatch (wpAny_bind (wpAny_pure (wpAny_pure (by exact fin))))
  unfold richCompare; simp only [oneThing_ref]; refine wpAny_holding (wpAny_bind (wpAny_cRoomFor hu ?_)); refine wpAny_bind (I.type.here (wpAny_bind (hb.here ?_)))
  have e : (Value.ref C != Value.ref C) = false := by simp
  simp only [e, Bool.false_eq_true, if_false]
  refine wpAny_bind (wpAny_pure ?_); simp only [Bool.false_eq_true, if_false]
  refine wpAny_bind (m := tryCompare _ _ _) (wpAny_mono one (fun r s' z => ?_) fun _ _ e => e)
  obtain ⟨v, rfl, hq⟩ := z
  exact wpAny_pure hq
end
end PySem.W

set_option Elab.async false
set_option linter.all false
set_option maxRecDepth 100000
set_option maxHeartbeats 4000000
namespace Od
open PySem L2 TL PySem.Spec
section
variable {X : Cx} {M : Addr → Prop} {e : DE} {cs cs1 cs2 cs3 : Cs} {fr : Frs} {D0 : Ends} {pos p pos' apos : Pos} {tg a b c ex o : Expr} {es : List Expr} {rest : List Stmt} {d x y z : D} {ds es' : List D} {n m : Str} {k j : Nat}
variable {ι : Type} {pre : ι → Prop} {args : ι → List D} {cz cz' : ι → Cs} {res : ι → D}
/-- a op b, two instances of one class with an own def for op -/
theorem bd_own {op : Operator} {cn : Str} {ns : List Str} {nm : Str} (F : Dun X.prog X.w X.K X.mg X.base cn nm k (puSp X.K X.mg pre args res)) (hsf : ∀ C, X.mg cn = some (.ref C) → PySem.W.selfFirst X.K C = true) (hr : Room k X.A) (i : ι) (hp : pre i) (hds : [.obj cn ns ds, .obj cn ns es'] = args i) (hi : PySem.dunder op.info.2 = nm := by rfl) : BinD X op (.obj cn ns ds) (.obj cn ns es') (res i) := by
  subst hi
  obtain ⟨C, f, hm, hf, hfn, F⟩ := F.ex
  have ur : OpR X (binaryOp op) (fun x y H Q => ∃ a dx fs b dy gs, x = .ref a ∧ y = .ref b ∧ H a = some (.ins C dx fs) ∧ H b = some (.ins C dy gs) ∧ puSp X.K X.mg pre args res [.ref a, .ref b] H Q E0) := by
    intro pins s σ H x y v u Q I rx ry h
    obtain ⟨a, dx, fs, b, dy, gs, rfl, rfl, ea, eb, q⟩ := h
    cases (show v = Value.ref a from rx)
    cases (show u = Value.ref b from ry)
    obtain ⟨mA, O, _, _, _, _⟩ := ins_get I.hok ea
    obtain ⟨od, J, _⟩ := O.look
    obtain ⟨mB, O2, _, _, _, _⟩ := ins_get I.hok eb
    obtain ⟨od2, J2, _⟩ := O2.look
    obtain ⟨m, hF⟩ := I.fr
    refine PySem.W.odBin hF I.ok.mod.kin J J2 (hsf C hm) hf hfn ?_
    refine wpAny_mono (wpAny_call (run_fnR (us := [.ref a, .ref b]) (vs := [.ref a, .ref b]) F hr passL I (.cons rfl (.cons rfl .nil)) q)) (fun w s' z => ?_) fun _ _ x => x
    obtain ⟨z', H', I', rz, qz⟩ := z
    exact SlX.cmpback rz ⟨z', H', I', rz, qz⟩
  refine ⟨_, ur, fun M H v u Q mt hv hu k => ?_⟩
  have hv0 := hv
  have hu0 := hu
  obtain ⟨ad, C', dx, xs, rfl, _, hm', ho, hl, rs⟩ := r_obj hv
  rw [hm] at hm'; cases hm'
  obtain ⟨ad2, C', dx2, xs2, rfl, _, hm', ho2, hl2, rs2⟩ := r_obj hu
  rw [hm] at hm'; cases hm'
  exact ⟨ad, dx, _, ad2, dx2, _, rfl, rfl, ho, ho2, pu_use i hp mt (by rw [← hds]; exact .cons hv0 (.cons hu0 .nil)) k⟩
/-- a != b by an own __eq__ -/
structure NeF (K : PySem.W.Frag) (C : Addr) : Prop where
  ne : PySem.W.findIn K (.ref C) "__ne__" = some (some (.builtin "object.__ne__"))
  hm : PySem.W.mroIn K C (.type "object") = some true
theorem cd_neOwn {cn : Str} {ns : List Str} {b0 : Bool} (F : Dun X.prog X.w X.K X.mg X.base cn "__eq__" k (puSp X.K X.mg pre args res)) (hn : ∀ C, X.mg cn = some (.ref C) → NeF X.K C) (hr : Room (k + 1) X.A) (i : ι) (hp : pre i) (hds : [.obj cn ns ds, .obj cn ns es'] = args i) (hb : res i = .bl b0) : CmpD X .NotEq (.obj cn ns ds) (.obj cn ns es') (!b0) := by
  obtain ⟨C, f, hm, hf, hfn, F⟩ := F.ex
  have ur : OpR X (compareOp .NotEq) (fun x y H Q => ∃ a dx fs b dy gs, x = .ref a ∧ y = .ref b ∧ H a = some (.ins C dx fs) ∧ H b = some (.ins C dy gs) ∧ puSp X.K X.mg pre args res [.ref a, .ref b] H (fun v H' => ∃ r, v = .bl r ∧ Q (.bl (!r)) H') E0) := by
    intro pins s σ H x y v u Q I rx ry h
    obtain ⟨a, dx, fs, b, dy, gs, rfl, rfl, ea, eb, q⟩ := h
    cases (show v = Value.ref a from rx)
    cases (show u = Value.ref b from ry)
    obtain ⟨mA, O, _, _, _, _⟩ := ins_get I.hok ea
    obtain ⟨od, J, _⟩ := O.look
    obtain ⟨mB, O2, _, _, _, _⟩ := ins_get I.hok eb
    obtain ⟨od2, J2, _⟩ := O2.look
    obtain ⟨m, hF⟩ := I.fr
    have hr1 : Room k X.A.in1 := hr.in1
    show wpAny _ _ (richCompare .NotEq (.ref a) (.ref b)) _ _ _
    refine PySem.W.odNe hr.units0 hr1.units0 hF I.ok.mod.kin J J2.type (hn C hm).hm (hn C hm).ne hf hfn ?_
    refine wpAny_mono (wpAny_call (SlX.run_at (us := [.ref a, .ref b]) (ws := [.ref a, .ref b]) F hr1 I.env0.in1 passL I (.cons rfl (.cons rfl .nil)) q)) (fun w s' z => ?_) fun _ _ x => x
    obtain ⟨z', H', I', rz, r, rfl, qz⟩ := z
    cases (show w = Value.bool r from rz)
    exact ⟨r, rfl, .bl (!r), H', I', rfl, qz⟩
  refine ⟨_, ur, fun M H v u Q mt hv hu k => ?_⟩
  have hv0 := hv
  have hu0 := hu
  obtain ⟨ad, C', dx, xs, rfl, _, hm', ho, hl, rs⟩ := r_obj hv
  rw [hm] at hm'; cases hm'
  obtain ⟨ad2, C', dx2, xs2, rfl, _, hm', ho2, hl2, rs2⟩ := r_obj hu
  rw [hm] at hm'; cases hm'
  refine ⟨ad, dx, _, ad2, dx2, _, rfl, rfl, ho, ho2, pu_use i hp mt (by rw [← hds]; exact .cons hv0 (.cons hu0 .nil)) fun v H' x r => ?_⟩
  rw [hb] at r
  exact ⟨b0, by simpa [R] using r, k _ H' x (by simp [R])⟩
/-- str(o), o an instance with an own __str__ -/
theorem kd_strOwn {cn : Str} {ns : List Str} {t : Str} (F : Dun X.prog X.w X.K X.mg X.base cn "__str__" k (puSp X.K X.mg pre args res)) (hr : Room (k + 2) X.A) (i : ι) (hp : pre i) (hds : [.obj cn ns ds] = args i) (hb : res i = .str t) : CalD X (.type "str") [.obj cn ns ds] (.str t) := by
  obtain ⟨C, f, hm, hf, hfn, F⟩ := F.ex
  have ur : CallR X (.type "str") (fun xs H Q => ∃ a dx fs, xs = [.ref a] ∧ H a = some (.ins C dx fs) ∧ puSp X.K X.mg pre args res [.ref a] H (fun v H' => ∃ r, v = .str r ∧ Q (.str r) H') E0) := by
    intro pins s σ H xs us Q I r h
    obtain ⟨a, dx, fs, rfl, ea, q⟩ := h
    rw [Vals.ref1 r]
    obtain ⟨mA, O, _, _, _, _⟩ := ins_get I.hok ea
    obtain ⟨od, J, _⟩ := O.look
    have hr2 : Room k X.A.in1.in1 := (show Room (k + 1) X.A.in1 from hr.in1).in1
    refine PySem.W.kso_call hr2.units0 I.kIn J hf hfn (wpAny_mono (wpAny_call (SlX.run_at (us := [.ref a]) (ws := [.ref a]) F hr2 I.env0.in1.in1 passL I (.cons rfl .nil) q)) (fun w s' z => ?_) fun _ _ x => x)
    obtain ⟨z', H', I', rz, r, rfl, qz⟩ := z
    obtain ⟨t, rfl⟩ := (show ∃ t, w = Value.str r t from rz)
    exact ⟨.str r, H', I', ⟨t, rfl⟩, qz⟩
  refine ⟨_, ur, fun M H vs Q mt hv k => ?_⟩
  obtain ⟨v, rfl, hw⟩ := rs1 hv
  have hv0 := hw
  obtain ⟨ad, C', dx, xs, rfl, _, hm', ho, hl, rs⟩ := r_obj hw
  rw [hm] at hm'; cases hm'
  refine ⟨ad, dx, _, rfl, ho, pu_use i hp mt (by rw [← hds]; exact .cons hv0 .nil) fun v H' x r => ?_⟩
  rw [hb] at r
  exact ⟨t, by simpa [R] using r, k _ H' x (by simp [R])⟩
/-- repr(o) -/
theorem kd_reprOwn {cn : Str} {ns : List Str} {t : Str} (F : Dun X.prog X.w X.K X.mg X.base cn "__repr__" k (puSp X.K X.mg pre args res)) (hr : Room (k + 1) X.A) (i : ι) (hp : pre i) (hds : [.obj cn ns ds] = args i) (hb : res i = .str t) : CalD X (.builtin "repr") [.obj cn ns ds] (.str t) := by
  obtain ⟨C, f, hm, hf, hfn, F⟩ := F.ex
  have ur : CallR X (.builtin "repr") (fun xs H Q => ∃ a dx fs, xs = [.ref a] ∧ H a = some (.ins C dx fs) ∧ puSp X.K X.mg pre args res [.ref a] H (fun v H' => ∃ r, v = .str r ∧ Q (.str r) H') E0) := by
    intro pins s σ H xs us Q I r h
    obtain ⟨a, dx, fs, rfl, ea, q⟩ := h
    rw [Vals.ref1 r]
    obtain ⟨mA, O, _, _, _, _⟩ := ins_get I.hok ea
    obtain ⟨od, J, _⟩ := O.look
    obtain ⟨m, hF⟩ := I.fr
    have hr1 : Room k X.A.in1 := hr.in1
    refine PySem.W.repr_K hr1.units0 hF I.ok.mod.kin J hf hfn (wpAny_mono (wpAny_call (SlX.run_at (us := [.ref a]) (ws := [.ref a]) F hr1 I.env0.in1 passL I (.cons rfl .nil) q)) (fun w s' z => ?_) fun _ _ x => x)
    obtain ⟨z', H', I', rz, r, rfl, qz⟩ := z
    obtain ⟨t, rfl⟩ := (show ∃ t, w = Value.str r t from rz)
    exact ⟨.str r, H', I', ⟨t, rfl⟩, qz⟩
  refine ⟨_, ur, fun M H vs Q mt hv k => ?_⟩
  obtain ⟨v, rfl, hw⟩ := rs1 hv
  have hv0 := hw
  obtain ⟨ad, C', dx, xs, rfl, _, hm', ho, hl, rs⟩ := r_obj hw
  rw [hm] at hm'; cases hm'
  refine ⟨ad, dx, _, rfl, ho, pu_use i hp mt (by rw [← hds]; exact .cons hv0 .nil) fun v H' x r => ?_⟩
  rw [hb] at r
  exact ⟨t, by simpa [R] using r, k _ H' x (by simp [R])⟩
/-! ### instances that change -/
/-- o.m(..), o a thing that may change -/
theorem e_mc {ad : Addr} {cn : Str} {ns : List Str} {mc' : MC} {pl : Sem Bool} (F : Mth X.prog X.w X.K X.mg X.base cn m k (fnSp X.K X.mg pre args cz res cz')) (hr : Room k X.A) (ho : EE X M e cs o (.ref ad) cs) (hin : (ad, MC.obj cn ns ds) ∈ cs) (ha : EA X M e cs (a :: es) es' cs1) (hnm : m ∉ ns) (i : ι) (hp : pre i) (hds : .ref ad :: es' = args i) {mc : MC} (h1 : cz i = [(ad, mc)]) (h2 : cz' i = [(ad, mc')]) (hu : Upd1 ad mc mc' cs1 cs2) (hd : res i = d := by rfl)
    (hst : starEach (a :: es) X.env = (false, eval a X.env) :: starEach es X.env := by rfl) (hpl : (backTo pos (starEach es X.env)).any (·.1) = false := by rfl)
    (ht : eval (.Call (.Attribute o m apos) (a :: es) [] pos) X.env = (do
      let ov ← eval o X.env
      standAt apos.atName
      let (f, first) ← holding [ov] (getMethod ov m pl)
      callWith pos f first (backTo pos (starEach (a :: es) X.env)) (backToKw pos (keywordEach [] X.env))) := by rfl) : EE X M e cs (.Call (.Attribute o m apos) (a :: es) [] pos) d cs2 where
  dm := hu.dm.trans ha.dm
  k := fun σ H Q S k => by
    obtain ⟨C, f, hm, hc, hmt, F⟩ := F.ex
    refine we_of (pe_methR (E := E0) pe_w hc hmt F hr passL pa_w hst hpl ht) (ho.k σ H _ S fun v H1 S1 x1 r1 => ?_)
    simp only [R] at r1
    subst r1
    obtain ⟨_, C', dx, xs, hm', hob, hl, rs⟩ := S1.cel _ hin
    rw [hm] at hm'; cases hm'
    refine ⟨ad, dx, _, rfl, hob, zip_lookup_none hnm, ha.k σ H1 _ S1 fun vs H2 S2 x2 r2 => ?_⟩
    subst hd
    refine sp_use i hp S2 (by rw [← hds]; exact .cons (by simp [R]) r2) (by rw [h1]; simpa using hu.mem) (by rw [h1]; simp) hu.dm (fun q hq => ?_) fun v H' S3 x3 r3 => k v H' S3 ((x1.trans x2).trans (by rw [← ha.dm]; exact x3)) r3
    rw [h1, h2]
    rcases hu.of S2.nd q hq with z | ⟨z1, z2⟩
    · exact .inl (by simp [z])
    · exact .inr ⟨z1, by simpa using z2⟩
theorem e_mc0 {ad : Addr} {cn : Str} {ns : List Str} {mc' : MC} {pl : Sem Bool} (F : Mth X.prog X.w X.K X.mg X.base cn m k (fnSp X.K X.mg pre args cz res cz')) (hr : Room k X.A) (ho : EE X M e cs o (.ref ad) cs) (hin : (ad, MC.obj cn ns ds) ∈ cs) (hnm : m ∉ ns) (i : ι) (hp : pre i) (hds : [.ref ad] = args i) {mc : MC} (h1 : cz i = [(ad, mc)]) (h2 : cz' i = [(ad, mc')]) (hu : Upd1 ad mc mc' cs cs2) (hd : res i = d := by rfl)
    (ht : eval (.Call (.Attribute o m apos) [] [] pos) X.env = (do
      let ov ← eval o X.env
      standAt apos.atName
      let (f, first) ← holding [ov] (getMethod ov m pl)
      callWith pos f first (backTo pos (starEach [] X.env)) (backToKw pos (keywordEach [] X.env))) := by rfl) : EE X M e cs (.Call (.Attribute o m apos) [] [] pos) d cs2 where
  dm := hu.dm
  k := fun σ H Q S k => by
    obtain ⟨C, f, hm, hc, hmt, F⟩ := F.ex
    refine we_of (pe_methR0 (E := E0) pe_w hc hmt F hr passL ht) (ho.k σ H _ S fun v H1 S1 x1 r1 => ?_)
    simp only [R] at r1
    subst r1
    obtain ⟨_, C', dx, xs, hm', hob, hl, rs⟩ := S1.cel _ hin
    rw [hm] at hm'; cases hm'
    subst hd
    refine ⟨ad, dx, _, rfl, hob, zip_lookup_none hnm, ?_⟩
    refine sp_use i hp S1 (by rw [← hds]; exact .cons (by simp [R]) .nil) (by rw [h1]; simpa using hu.mem) (by rw [h1]; simp) hu.dm (fun q hq => ?_) fun v H' S3 x3 r3 => k v H' S3 (x1.trans x3) r3
    rw [h1, h2]
    rcases hu.of S1.nd q hq with z | ⟨z1, z2⟩
    · exact .inl (by simp [z])
    · exact .inr ⟨z1, by simpa using z2⟩
/-- o.f += n, o a thing that may change -/
theorem at_fldaug {ad C : Addr} {cn : Str} {ns : List Str} {i j : Int} {tp : Pos} (q : Nat) (ho : EE X M e cs o (.ref ad) cs) (hv : EE X M e cs ex (.int j) cs) (hm : X.mg cn = some (.ref C)) (hcl : Cls X.K C) (hn : NoAttr X.K C m) (hlen : ns.length < 900) (hi : ns.idxOf? m = some q) (hq : ds[q]? = some (.int i)) (hu : Upd1 ad (.obj cn ns ds) (.obj cn ns (ds.set q (.int (i + j)))) cs cs2)
    (k : At X M e cs2 fr (wSs X rest D0)) : At X M e cs fr (wSs X (.AugAssign (.Attribute o m tp) .Add ex pos :: rest) D0) := fun σ H S x l =>
  wss_of (pss_cons (ps_fldaug pe_w pe_w in_add) pss_w) (ho.k σ H _ S fun v H1 S1 x1 r1 => by
    simp only [R] at r1
    subst r1
    obtain ⟨mm, C', dx, xs, hm', h3, hl, rs⟩ := S1.cel _ hu.mem
    rw [hm] at hm'; cases hm'
    obtain ⟨w, hw, rw'⟩ := rs.get hq
    simp only [R] at rw'
    subst rw'
    refine ⟨ad, C, dx, ns.zip xs, .int i, rfl, h3, hcl, hn, zip_lookup hi hw, hv.k σ H1 _ S1 fun u H2 S2 x2 r2 => ?_⟩
    simp only [R] at r2
    subst r2
    obtain ⟨mm, C', dx2, xs2, hm', h4, hl2, rs2⟩ := S2.cel _ hu.mem
    rw [hm] at hm'; cases hm'
    refine ⟨i, j, rfl, rfl, dx2, ns.zip xs2, h4, by rw [List.length_zip]; omega, ?_⟩
    rw [putF_at hi hl2.symm]
    have hnm : ∀ b o, ¬ M b → H2 b = some o → upd H2 ad (.ins C dx2 (ns.zip (xs2.set q (.int (i + j))))) b = some o := fun b o nb h => by rw [upd_ne (fun z => nb (by rw [z]; exact mm))]; exact h
    refine k σ _ (sit_put S2 hu ⟨C, dx2, _, hm, upd_same, by simp [hl2], Rs.ext hnm (fun _ n _ => n) _ (rs2.set q (by simp [R]))⟩) ?_ (lo_of l hu.dm)
    exact ext_on (ext_on (ext_on x l x1) l x2) l (ext_put hu.dom))
theorem R.of_flat {K : PySem.W.Frag} {mg : Str → Option Value} {H : Hp} : ∀ {d : D} {v : V}, Od.flat d = some v → R K mg M H v d
  | .non, v, h => by simp [Od.flat] at h; simp [R, ← h]
  | .bl _, v, h => by simp [Od.flat] at h; simp [R, ← h]
  | .int _, v, h => by simp [Od.flat] at h; simp [R, ← h]
  | .str _, v, h => by simp [Od.flat] at h; simp [R, ← h]
  | .ref _, v, h => by simp [Od.flat] at h
  | .ty _, v, h => by simp [Od.flat] at h
  | .lst _, v, h => by simp [Od.flat] at h
  | .tup _, v, h => by simp [Od.flat] at h
  | .obj _ _ _, v, h => by simp [Od.flat] at h
  | .dic _ _, v, h => by simp [Od.flat] at h
  | .scr _, v, h => by simp [Od.flat] at h
  | .lam _, v, h => by simp [Od.flat] at h
  | .exc _ _ _ _, v, h => by simp [Od.flat] at h
theorem Rs.of_flats {K : PySem.W.Frag} {mg : Str → Option Value} {H : Hp} : ∀ {ds : List D} {vs ws : List V}, Od.flats ds = some ws → vs = ws → Rs K mg M H vs ds
  | [], vs, ws, h, e => by simp [Od.flats] at h; subst e h; exact Rs.nil
  | d :: ds, vs, ws, h, e => by
    unfold Od.flats at h
    cases q1 : Od.flat d with
    | none => rw [q1] at h; cases h
    | some w =>
      rw [q1] at h
      cases q2 : Od.flats ds with
      | none => rw [q2] at h; cases h
      | some w2 =>
        rw [q2] at h
        cases h
        subst e
        exact .cons (R.of_flat q1) (Rs.of_flats q2 rfl)
/-- x = C(..), an instance that changes from here on; its fields are plain -/
theorem at_setC {cn : Str} {ns : List Str} {dz : ι → List D} {dx : List D} {ws : List V} (i : Nat) (F : Mkr X.prog X.w X.K X.mg X.base cn k (mkSp X.K X.mg cn pre args ns dz)) (hr : Room (k + 1) X.A) (ha : EA X M e cs (a :: es) dx cs) (j : ι) (hp : pre j) (hds : dx = args j) (hfl : flats (dz j) = some ws)
    (kk : ∀ q, At X (fun b => M b ∨ b = q) (e.set i (some (.ref q))) ((q, .obj cn ns (dz j)) :: cs) fr (wSs X rest D0)) (hN : X.N.Nodup) (hi : X.N[i]? = some n := by rfl) (hx : Loc X.env.scope n := by first | exact .inl rfl | exact .inr rfl) (hg : Gl X cn := by rfl)
    (hf : X.fn n = true ∨ X.env.scope.names.lookup n = some .local := by first | exact .inl rfl | exact .inr rfl) (hdb : (cn == ("__debug__" : Str)) = false := by decide) (he : starEach (a :: es) X.env = (false, eval a X.env) :: starEach es X.env := by rfl) (hpl : (backTo pos (starEach es X.env)).any (·.1) = false := by rfl)
    {spos : Pos} (hs2 : swapsWith (.Call (.Name cn p) (a :: es) [] pos) (some (.Name n pos')) spos.line X.env = pure false := by rfl) : At X M e cs fr (wSs X (.Assign [.Name n pos'] (.Call (.Name cn p) (a :: es) [] pos) spos :: rest) D0) := fun σ H S xx l => by
  obtain ⟨C, f, hm, hmk, F⟩ := F.ex
  refine wss_of (pss_cons (ps_set hN hi hx (StX.pe_makeR (E := E0) hmk F hr hg hm passL pa_w hdb he hpl) hs2 hf) pss_w) (ha.k σ H _ S fun vs H1 S1 x1 r1 xa dx hxa hdx hne => ?_)
  subst hds
  have ke : ∀ a o, H1 a = some o → upd (upd H1 dx (.own xa)) xa (.ins C dx []) a = some o := fun a o h => by
    rw [upd_ne (ne_of_none h hxa), upd_ne (ne_of_none h hdx)]; exact h
  have tr : ∀ a, H1 a ≠ none → upd (upd H1 dx (.own xa)) xa (.ins C dx []) a ≠ none := fun a h => by
    cases q : H1 a with
    | none => exact absurd q h
    | some o => rw [ke a o q]; simp
  refine ⟨M, j, xa, C, dx, vs, hp, rfl, hm, upd_same, new_m S1.mt hxa, fun a ma => tr a (S1.mt a ma), Rs.ext (fun a o _ h => ke a o h) (fun a n h z => z.elim n fun z => h (z ▸ hxa)) _ r1, fun H' mt xt ro => ⟨rfl, ?_⟩⟩
  have xt' : Ext [] H1 H' := fun a o h _ => xt a o (ke a o h) (by simpa using ne_of_none h hxa)
  have kp : ∀ b o, H1 b = some o → H' b = some o := fun b o h => xt' b o h (by simp)
  have mr : ∀ b, ¬ M b → H1 b ≠ none → ¬ (M b ∨ b = xa) := fun b h1 h2 z => z.elim h1 fun z => h2 (z ▸ hxa)
  unfold R at ro
  obtain ⟨q, C', dq, xs, eq, nq, hm', hq, hl, rs⟩ := ro
  cases eq
  rw [hm] at hm'; cases hm'
  have exs := rs.flats hfl
  have rs2 : Rs X.K X.mg (fun b => M b ∨ b = xa) H' xs (dz j) := Rs.of_flats hfl (by rw [exs])
  have S2 : Sit X.K X.mg (fun b => M b ∨ b = xa) σ H' e ((xa, .obj cn ns (dz j)) :: cs) := by
    refine ⟨fun b mb => ?_, S1.len, fun i d hd => ?_, fun c hc => ?_, ?_⟩
    · rcases mb with mb | rfl
      · exact mt b mb
      · rw [hq]; simp
    · obtain ⟨v, e1, r⟩ := S1.env i d hd
      exact ⟨v, e1, R.ext (fun b o _ h => kp b o h) mr _ r⟩
    · rcases List.mem_cons.mp hc with rfl | hc
      · exact ⟨.inr rfl, C, dq, xs, hm, hq, hl, rs2⟩
      · obtain ⟨m, c2⟩ := S1.cel c hc
        exact ⟨.inl m, c2.ext (fun b o _ h => kp b o h) mr fun o h => kp _ o h⟩
    · show (xa :: cs.map (·.1)).Nodup
      refine List.nodup_cons.mpr ⟨fun z => ?_, S1.nd⟩
      obtain ⟨c, hc, e⟩ := List.mem_map.mp z
      exact (S1.cel c hc).2.ne (e ▸ hxa)
  refine kk xa _ H' (S2.set i (by simp [R])) ?_ ?_
  · exact ext_on (ext_on xx l x1) l (xt'.mono (by simp))
  · intro f0 hf0 b hb
    rcases List.mem_cons.mp hb with rfl | hb
    · by_cases h : b ∈ f0.1
      · exact .inl h
      · right
        cases z : f0.2 b with
        | none => rfl
        | some o =>
          have := (ext_on xx l x1) f0 hf0 b o z h
          rw [this] at hxa; cases hxa
    · exact l f0 hf0 b hb
end
end Od

set_option Elab.async false
set_option linter.all false
set_option maxRecDepth 100000
set_option maxHeartbeats 4000000
/-! Od15: f'a{x}b', s.startswith(t, i), f(k=v) -/
namespace Od
open PySem L2 TL PySem.Spec
section
variable {X : Cx} {M : Addr → Prop} {e : DE} {cs cs1 cs2 cs3 : Cs} {pos p pos' apos p1 p2 p3 : Pos} {tg a b c ex o : Expr} {es : List Expr} {d x y z : D} {ds es' : List D} {n m : Str} {k j : Nat}
/-- f'a{x}b' -/
theorem e_fstr3 {s t u : Str} {i1 i2} (ha : EE X M e cs ex (.str t) cs1) (hl : s.length + t.length + u.length ≤ 100000) : EE X M e cs (.JoinedStr [.Constant (.str s) i1 p1, .FormattedValue ex (-1) none p2, .Constant (.str u) i2 p3] pos) (.str (s ++ t ++ u)) cs1 where
  dm := ha.dm
  k := fun σ H Q S k => by
    have z : ∀ n : Nat, n ≤ 100000 → n ≤ sizeLine := fun n h => Nat.le_trans h (by decide)
    have e0 : ∀ w : Str, (Str.empty : Str) ++ w = w := fun w => ext_tl (by
      show (Str.empty.cps ++ w.cps).toList = w.cps.toList
      simp [Str.empty])
    have la : ∀ v w : Str, (v ++ w).length = v.length + w.length := fun v w => by
      rw [len_tl, len_tl, len_tl]
      show ((v.cps ++ w.cps).toList).length = _
      simp
    refine we_of (pe_joined (.cons pe_str (.cons (pe_fmt pe_w) (.cons pe_str .nil)))) ⟨s, rfl, z _ (by rw [la]; show 0 + _ ≤ _; omega), ha.k σ H _ S fun v H1 S1 x1 r1 => ?_⟩
    simp only [R] at r1
    refine .inl ⟨t, r1, z _ (by omega), t, rfl, z _ (by rw [la, la]; show 0 + _ + _ ≤ _; omega), u, rfl, z _ (by rw [la, la, la]; show 0 + _ + _ + _ ≤ _; omega), k _ H1 S1 x1 ?_⟩
    simp only [R]
    rw [e0]
/-- s.startswith(t, i) -/
theorem e_sw {s t : Str} {i : Int} (ho : EE X M e cs o (.str s) cs1) (ha : EE X M e cs1 a (.str t) cs2) (hb : EE X M e cs2 b (.int i) cs3)
    (h1 : ∀ ta, PA X [a, b] ta → PE X (.Call (.Attribute o "startswith" apos) [a, b] [] pos) (tBM X.K "str" (fun x xs H Q => ∃ (a b : Str) (i : Int), x = .str a ∧ xs = [.str b, .int i] ∧ Q (.bl (Txt.startswith3 a b i)) H) (wE X o) ta) := by intro ta hta; exact pe_bm PySem.F.plainAttrs_str PySem.F.slot_str_startswith PySem.F.type_str_startswith mt_startswith3 pe_w hta)
    (he : starEach [a, b] X.env = (false, eval a X.env) :: starEach [b] X.env := by rfl) (he2 : starEach [b] X.env = (false, eval b X.env) :: starEach [] X.env := by rfl) : EE X M e cs (.Call (.Attribute o "startswith" apos) [a, b] [] pos) (.bl (Txt.startswith3 s t i)) cs3 where
  dm := hb.dm.trans (ha.dm.trans ho.dm)
  k := fun σ H Q S k => by
    refine we_of (h1 _ pa_w) (ho.k σ H _ S fun v H1 S1 x1 r1 => ?_)
    simp only [R] at r1
    subst r1
    refine ⟨by first | exact tyV_str _ | exact .str _ | exact ⟨_, rfl⟩ | trivial | rfl, (a_cons ha (a_cons hb a_nil he2) he).k σ H1 _ S1 fun vs H2 S2 x2 r2 => ?_⟩
    obtain ⟨v, u, rfl, r3, r4⟩ := rs2 r2
    simp only [R] at r3 r4
    subst r3 r4
    exact ⟨s, t, i, rfl, rfl, k _ H2 S2 (x1.trans (by rw [← ho.dm]; exact x2)) (by simp [R])⟩
/-- a def of the module, called by a keyword -/
structure DfnK (P : Program) (w : World) (K : PySem.W.Frag) (mg : Str → Option Value) (base : Heap) (n kw : Str) (k : Nat) (sp : Sp) : Prop where
  ex : ∃ f fd ps, mg n = some (.ref f) ∧ PySem.W.keepIn K (.ref f) = true ∧ FnOk P w K mg base (L2.CX P w) k f fd ps sp ∧ KBinds K fd ps [kw] (fun us ws => us ++ ws) (fun vs zs => vs ++ zs)
variable {ι : Type} {pre : ι → Prop} {args : ι → List D} {res : ι → D}
/-- f(k=v) -/
theorem e_callK {kw : String} {kp : Pos} (F : DfnK X.prog X.w X.K X.mg X.base n (Str.ofString kw) k (puSp X.K X.mg pre args res)) (hr : Room k X.A) (ha : EE X M e cs a x cs1) (i : ι) (hp : pre i) (hds : [x] = args i) (hd : res i = d := by rfl) (hg : Gl X n := by rfl) (hdb : (n == ("__debug__" : Str)) = false := by decide)
    (hall : (backToKw pos (keywordEach [⟨some kw, a, kp⟩] X.env)).all (·.1.isSome) = true := by rfl) (hks : (backToKw pos (keywordEach [⟨some kw, a, kp⟩] X.env)).filterMap (·.1) = [Str.ofString kw] := by rfl)
    (hpl : ((backTo pos (starEach [] X.env)).any (·.1) || (backToKw pos (keywordEach [⟨some kw, a, kp⟩] X.env)).any (·.1.isNone)) = false := by rfl) : EE X M e cs (.Call (.Name n p) [] [⟨some kw, a, kp⟩] pos) d cs1 where
  dm := ha.dm
  k := fun σ H Q S k => by
    obtain ⟨f, fd, ps, hm, hk, F, kb⟩ := F.ex
    have pe : PE X (.Call (.Name n p) [] [⟨some kw, a, kp⟩] pos) (fun σ H Q => tCons (wE X a) tNil σ H fun zs H2 => puSp X.K X.mg pre args res zs H2 Q E0) := by
      refine ⟨fun pins s σ H Q I h => ?_⟩
      refine wpAny_Call_Name_kw (ld_glob I hg hm ?_ hdb)
      refine PySem.W.callWith_KW0 (h₀ := X.base) I.ok.mod.kin hk hall (thn ((pk_cons pe_w pk_nil).run pos pins s σ H _ I h) fun ws s2 ⟨zs, H2, I2, rz, q2⟩ => ⟨I2.kIn, ?_⟩) hpl
      rw [hks]
      exact run_fnk (us := []) (vs := []) F hr kb passL I2 .nil rz q2
    refine we_of pe (ha.k σ H _ S fun v H1 S1 x1 r1 => ?_)
    subst hd
    show puSp X.K X.mg pre args res [v] H1 Q E0
    exact sp_use i hp S1 (by rw [← hds]; exact .cons r1 .nil) (by simp) (by simp) rfl (fun q hq => .inr ⟨hq, by simp⟩) fun v H' S2 x2 r2 => k v H' S2 (x1.trans (by rw [← ha.dm]; exact x2)) r2
end
end Od

set_option Elab.async false
set_option linter.all false
set_option maxRecDepth 100000
set_option maxHeartbeats 4000000
/-! Od16: {k: v, ..}[x] of texts -/
namespace Od
open PySem L2 TL PySem.Spec
section
variable {X : Cx} {M : Addr → Prop} {e : DE} {cs cs1 : Cs} {pos pd p1 p2 p3 p4 p5 p6 : Pos} {b : Expr}
theorem dix_core {keys : List (Option Expr)} {values : List Expr} {trs : List (TE × TE)} {s t : Str} {kvs : List (Key × V)} (hpp : PPs X pd keys values trs) (hall : keys.all (·.isSome) = true) (hl : keys.length = values.length) (h0 : keys ≠ []) (h15 : keys.length ≤ 15)
    (htr : ∀ (σ : L2.St) (H : Hp) (Q : List (V × V) → Hp → Prop), Q (kvs.map fun kv => (kV kv.1, kv.2)) H → tPairs trs σ H Q) (hlen : kvs.length ≤ 15) (hb : EE X M e cs b (.str s) cs1) (hv : valV (mergeK [] kvs) (Sum.inr s : Key) = some (.str t)) (hu : X.A.units + 1 < cLine) (hs : NoSl b) : EE X M e cs (.Subscript (.Dict keys values pd) b pos) (.str t) cs1 where
  dm := hb.dm
  k := fun σ H Q S k => by
    refine we_of (pe_dget hu (pe_disp hpp hall hl h0 h15) pe_w hs) (fun p hp => htr _ _ _ ⟨upd_same, kvs, rfl, hlen, ?_⟩)
    have x1 : Ext [] H (upd (upd H p (.dK [])) p (.dK (mergeK [] kvs))) := fun a o h _ => by
      rw [upd_ne (ne_of_none h hp), upd_ne (ne_of_none h hp)]; exact h
    have S1 := S.ex x1
    have hnd : p ∉ dom cs := fun z => by
      obtain ⟨q, hq, e⟩ := List.mem_map.mp z
      exact (S.cel q hq).2.ne (e ▸ hp)
    refine hb.k σ _ _ S1 fun v H2 S2 x2 r2 => ?_
    simp only [R] at r2
    subst r2
    have h2 : H2 p = some (.dK (mergeK [] kvs)) := x2 p _ upd_same hnd
    refine ⟨p, .str t, rfl, ?_, k _ H2 S2 ((x1.mono (by simp)).trans x2) (by simp [R])⟩
    have := DGet.k (k := (Sum.inr s : Key)) h2
    rw [hv] at this
    exact this
theorem e_dix2 {k1 v1 k2 v2 s t : Str} {i1 i2 i3 i4} (hb : EE X M e cs b (.str s) cs1) (hv : valV (mergeK [] [((Sum.inr k1 : Key), V.str v1), (Sum.inr k2, .str v2)]) (Sum.inr s : Key) = some (.str t)) (hu : X.A.units + 1 < cLine) (hs : NoSl b := by intro _ _; rfl) : EE X M e cs (.Subscript (.Dict [some (.Constant (.str k1) i1 p1), some (.Constant (.str k2) i2 p2)] [.Constant (.str v1) i3 p3, .Constant (.str v2) i4 p4] pd) b pos) (.str t) cs1 :=
  dix_core (pps_cons pe_str pe_str (pps_cons pe_str pe_str pps_nil)) rfl rfl (by simp) (by simp) (kvs := [((Sum.inr k1 : Key), V.str v1), (Sum.inr k2, .str v2)]) (fun σ H Q q => q) (by simp) hb hv hu hs
theorem e_dix3 {k1 v1 k2 v2 k3 v3 s t : Str} {i1 i2 i3 i4 i5 i6} (hb : EE X M e cs b (.str s) cs1) (hv : valV (mergeK [] [((Sum.inr k1 : Key), V.str v1), (Sum.inr k2, .str v2), (Sum.inr k3, .str v3)]) (Sum.inr s : Key) = some (.str t)) (hu : X.A.units + 1 < cLine) (hs : NoSl b := by intro _ _; rfl) : EE X M e cs (.Subscript (.Dict [some (.Constant (.str k1) i1 p1), some (.Constant (.str k2) i2 p2), some (.Constant (.str k3) i3 p3)] [.Constant (.str v1) i4 p4, .Constant (.str v2) i5 p5, .Constant (.str v3) i6 p6] pd) b pos) (.str t) cs1 :=
  dix_core (pps_cons pe_str pe_str (pps_cons pe_str pe_str (pps_cons pe_str pe_str pps_nil))) rfl rfl (by simp) (by simp) (kvs := [((Sum.inr k1 : Key), V.str v1), (Sum.inr k2, .str v2), (Sum.inr k3, .str v3)]) (fun σ H Q q => q) (by simp) hb hv hu hs
end
end Od

set_option Elab.async false
set_option linter.all false
set_option maxRecDepth 100000
set_option maxHeartbeats 4000000
/-! Od17: lists that grow: x = [..], x.append(v), x.insert(i, v), return x -/
namespace Od
open PySem L2 TL PySem.Spec
section
variable {X : Cx} {M : Addr → Prop} {e : DE} {cs cs1 cs2 cs3 : Cs} {fr : Frs} {D0 : Ends} {pos p pos' apos : Pos} {a b c ex o : Expr} {es : List Expr} {rest : List Stmt} {d x y z : D} {ds es' : List D} {n m : Str} {k j : Nat}
/-- what a method of a list does to a cell -/
theorem lst_meth {ad : Addr} {args : List Expr} {as : List D} {ds' : List D} (r : V → List V → Hp → VK → Prop) (hpe : ∀ ta, PA X args ta → PE X (.Call (.Attribute o m apos) args [] pos) (tBM X.K "list" r (wE X o) ta)) (ho : EE X M e cs o (.ref ad) cs) (hin : ∃ ds0, (ad, MC.lst ds0) ∈ cs) (ha : EA X M e cs args as cs1) (hu : Upd1 ad (.lst ds) (.lst ds') cs1 cs2)
    (hr : ∀ (xs vs : List V) (H : Hp) (Q : VK), H ad = some (.lst xs) → Rs X.K X.mg M H xs ds → Rs X.K X.mg M H vs as → (∀ ys, Rs X.K X.mg M H ys ds' → Q .non (upd H ad (.lst ys))) → r (.ref ad) vs H Q) : EE X M e cs (.Call (.Attribute o m apos) args [] pos) .non cs2 where
  dm := hu.dm.trans ha.dm
  k := fun σ H Q S k => by
    refine we_of (hpe _ pa_w) (ho.k σ H _ S fun v H1 S1 x1 r1 => ?_)
    simp only [R] at r1
    subst r1
    obtain ⟨ds0, hin⟩ := hin
    obtain ⟨_, xs0, h0, _⟩ := cell_lst S1 hin
    refine ⟨.inl ⟨rfl, xs0, .of h0⟩, ha.k σ H1 _ S1 fun vs H2 S2 x2 r2 => ?_⟩
    obtain ⟨mm, xs, h3, rs⟩ := cell_lst S2 hu.mem
    refine hr xs vs H2 Q h3 rs r2 fun ys rys => ?_
    have hnm : ∀ b o, ¬ M b → H2 b = some o → upd H2 ad (.lst ys) b = some o := fun b o nb h => by rw [upd_ne (fun z => nb (by rw [z]; exact mm))]; exact h
    exact k _ _ (sit_put S2 hu ⟨ys, upd_same, Rs.ext hnm (fun _ n _ => n) _ rys⟩) ((x1.trans x2).trans (by rw [← ha.dm]; exact ext_put hu.dom)) (by simp [R])
/-- x.append(v) -/
theorem e_app {ad : Addr} (ho : EE X M e cs o (.ref ad) cs) (hin : ∃ ds0, (ad, MC.lst ds0) ∈ cs) (ha : EE X M e cs a d cs1) (hu : Upd1 ad (.lst ds) (.lst (ds ++ [d])) cs1 cs2) (hl : ds.length < 100000)
    (hs : starEach [a] X.env = (false, eval a X.env) :: starEach [] X.env := by rfl)
    (hpe : ∀ ta, PA X [a] ta → PE X (.Call (.Attribute o "append" apos) [a] [] pos) (tBM X.K "list" rAppend (wE X o) ta) := by intro ta h; exact pe_bm PySem.F.plainAttrs_list PySem.F.slot_list_append PySem.F.type_list_append mt_append pe_w h) : EE X M e cs (.Call (.Attribute o "append" apos) [a] [] pos) .non cs2 :=
  lst_meth _ hpe ho hin (a_cons ha a_nil hs) hu fun xs vs H Q h rs rv k => by
    obtain ⟨v, rfl, rw'⟩ := rs1 rv
    exact ⟨ad, xs, v, rfl, rfl, h, by rw [rs.length]; exact Nat.lt_of_lt_of_le hl (by decide), k _ (rs.append (.cons rw' .nil))⟩
/-- x.insert(i, v) -/
theorem e_ins {ad : Addr} {i : Int} (ho : EE X M e cs o (.ref ad) cs) (hin : ∃ ds0, (ad, MC.lst ds0) ∈ cs) (ha : EE X M e cs a (.int i) cs1) (hb : EE X M e cs1 b d cs2) (hu : Upd1 ad (.lst ds) (.lst (ds.take i.toNat ++ [d] ++ ds.drop i.toNat)) cs2 cs3) (hl : ds.length < 100000) (hi : 0 ≤ i ∧ i < 2 ^ 63)
    (hs : starEach [a, b] X.env = (false, eval a X.env) :: starEach [b] X.env := by rfl) (hs2 : starEach [b] X.env = (false, eval b X.env) :: starEach [] X.env := by rfl)
    (hpe : ∀ ta, PA X [a, b] ta → PE X (.Call (.Attribute o "insert" apos) [a, b] [] pos) (tBM X.K "list" (fun x vs H Q => ∃ (l : Addr) (xs : List V) (i : Int) (y : V), x = .ref l ∧ vs = [.int i, y] ∧ H l = some (.lst xs) ∧ xs.length < sizeLine ∧ 0 ≤ i ∧ i < 2 ^ 63 ∧ Q .non (upd H l (.lst (xs.take i.toNat ++ [y] ++ xs.drop i.toNat)))) (wE X o) ta) := by intro ta h; exact pe_bm PySem.F.plainAttrs_list PySem.F.slot_list_insert PySem.F.type_list_insert mt_insert pe_w h) : EE X M e cs (.Call (.Attribute o "insert" apos) [a, b] [] pos) .non cs3 :=
  lst_meth _ hpe ho hin (a_cons ha (a_cons hb a_nil hs2) hs) hu fun xs vs H Q h rs rv k => by
    obtain ⟨v, u, rfl, r1, r2⟩ := rs2 rv
    simp only [R] at r1
    subst r1
    exact ⟨ad, xs, i, u, rfl, rfl, h, by rw [rs.length]; exact Nat.lt_of_lt_of_le hl (by decide), hi.1, hi.2, k _ ((rs.take _ |>.append (.cons r2 .nil)).append (rs.drop _))⟩
/-- x = [..], a list that changes from here on -/
theorem at_setL (i : Nat) (ha : EA X M e cs es ds cs1) (hl : ds.length ≤ 100000) (kk : ∀ q, ¬ M q → At X (fun b => M b ∨ b = q) (e.set i (some (.ref q))) ((q, .lst ds) :: cs1) fr (wSs X rest D0)) (hN : X.N.Nodup) (hi : X.N[i]? = some n := by rfl) (hx : Loc X.env.scope n := by first | exact .inl rfl | exact .inr rfl)
    (hs : swapsWith (.List es pos) (some (.Name n pos')) p.line X.env = pure false := by rfl) (hf : X.fn n = true ∨ X.env.scope.names.lookup n = some .local := by first | exact .inl rfl | exact .inr rfl) : At X M e cs fr (wSs X (.Assign [.Name n pos'] (.List es pos) p :: rest) D0) := fun σ H S xx l =>
  wss_of (pss_cons (ps_set hN hi hx (pe_lst pa_w) hs hf) pss_w) (ha.k σ H _ S fun vs H1 S1 x1 r1 => ⟨by rw [r1.length]; exact Nat.le_trans hl (by decide), fun q hq => by
    have kp : ∀ b o, H1 b = some o → upd H1 q (.lst vs) b = some o := fun b o h => by rw [upd_ne (ne_of_none h hq)]; exact h
    have mr : ∀ b, ¬ M b → H1 b ≠ none → ¬ (M b ∨ b = q) := fun b h1 h2 z => z.elim h1 fun z => h2 (z ▸ hq)
    have S2 := S1.mark (p := q) (o := .lst vs) hq
    have S3 : Sit X.K X.mg (fun b => M b ∨ b = q) σ (upd H1 q (.lst vs)) e ((q, .lst ds) :: cs1) := by
      refine ⟨S2.mt, S2.len, S2.env, fun c hc => ?_, ?_⟩
      · rcases List.mem_cons.mp hc with rfl | hc
        · exact ⟨.inr rfl, vs, upd_same, Rs.ext (fun b o _ h => kp b o h) mr _ r1⟩
        · exact S2.cel c hc
      · show (q :: cs1.map (·.1)).Nodup
        refine List.nodup_cons.mpr ⟨fun z => ?_, S1.nd⟩
        obtain ⟨c, hc, e⟩ := List.mem_map.mp z
        exact (S1.cel c hc).2.ne (e ▸ hq)
    refine kk q (new_m S1.mt hq) _ _ (S3.set i (by simp [R])) ?_ ?_
    · have l1 : Lo fr cs1 := lo_of l ha.dm
      exact ext_on (ext_on xx l x1) l1 (Ext.new hq)
    · intro f0 hf0 b hb
      rcases List.mem_cons.mp hb with rfl | hb
      · by_cases h : b ∈ f0.1
        · exact .inl h
        · right
          cases z : f0.2 b with
          | none => rfl
          | some o =>
            have := (ext_on xx l x1) f0 hf0 b o z h
            rw [this] at hq; cases hq
      · exact (lo_of l ha.dm) f0 hf0 b hb⟩)
/-- return x, a list of one's own, with nothing more to change it -/
theorem at_doneC {M0 : Addr → Prop} {q : Addr} {c2 : Cs} {H0 : Hp} {A0 : List Addr} {ex : Expr} (ho : EE X (fun b => M0 b ∨ b = q) e ((q, MC.lst ds) :: c2) ex (.ref q) ((q, MC.lst ds) :: c2)) (nq : ¬ M0 q) (hfr : (A0, H0) ∈ fr)
    (kq : ∀ v H', (∀ a, M0 a → H' a ≠ none) → Ext A0 H0 H' → (∀ p ∈ c2, M0 p.1 ∧ Cell X.K X.mg M0 H' p.1 p.2) → R X.K X.mg M0 H' v (.lst ds) → D0.rt v H') : At X (fun b => M0 b ∨ b = q) e ((q, MC.lst ds) :: c2) fr (wSs X (.Return (some ex) pos :: rest) D0) :=
  at_ret ho fun σ H v S x r => by
    simp only [R] at r
    subst r
    obtain ⟨_, xs, hq, rs⟩ := cell_lst S List.mem_cons_self
    have nd := (List.nodup_cons.mp (show (q :: c2.map (·.1)).Nodup from S.nd)).1
    refine kq _ H (fun a m => S.mt a (.inl m)) (x _ hfr) (fun p hp => ?_) ?_
    · obtain ⟨m, c⟩ := S.cel p (List.mem_cons_of_mem _ hp)
      have hne : p.1 ≠ q := fun z => nd (z ▸ List.mem_map_of_mem (f := (·.1)) hp)
      exact ⟨m.resolve_right hne, c.ext (fun a o _ h => h) (fun a n _ z => n (.inl z)) fun o h => h⟩
    · unfold R
      exact ⟨q, xs, rfl, nq, hq, Rs.ext (fun a o _ h => h) (fun a n _ z => n (.inl z)) _ rs⟩
end
end Od

set_option Elab.async false
set_option linter.all false
set_option maxRecDepth 100000
set_option maxHeartbeats 4000000
/-! Od18: dicts as values: {"k": v, ..}, d.get(s, y), d[s], s in d -/
namespace Od
open PySem L2 TL PySem.Spec
def dvl : List Key → List D → Key → Option D
  | k :: ks, d :: ds, x => if k = x then some d else dvl ks ds x
  | _, _, _ => none
section
variable {X : Cx} {M : Addr → Prop} {e : DE} {cs cs1 cs2 cs3 : Cs} {pos p pos' apos : Pos} {a b c ex o : Expr} {es : List Expr} {d x y z : D} {ds es' : List D} {n m : Str}
theorem dvl_rel {M : Addr → Prop} {H : Hp} {k : Key} : ∀ {ks : List Key} {xs : List V} {ds : List D}, ks.length = xs.length → Rs X.K X.mg M H xs ds → (valV (ks.zip xs) k = none ∧ dvl ks ds k = none) ∨ ∃ v d, valV (ks.zip xs) k = some v ∧ dvl ks ds k = some d ∧ R X.K X.mg M H v d
  | [], [], [], _, _ => .inl ⟨rfl, rfl⟩
  | k' :: ks, x :: xs, d :: ds, hl, r => by
    unfold Rs at r
    by_cases h : k' = k
    · refine .inr ⟨x, d, ?_, ?_, r.1⟩
      · exact valV_pos (p := (k', x)) h
      · show (if k' = k then some d else _) = _; rw [if_pos h]
    · have e1 : valV ((k' :: ks).zip (x :: xs)) k = valV (ks.zip xs) k := valV_neg (p := (k', x)) h
      have e2 : dvl (k' :: ks) (d :: ds) k = dvl ks ds k := by show (if k' = k then some d else _) = _; rw [if_neg h]
      rw [e1, e2]
      exact dvl_rel (by simpa using hl) r.2
  | [], [], _ :: _, _, r => by unfold Rs at r; exact r.elim
  | _ :: _, _ :: _, [], _, r => by unfold Rs at r; exact r.elim
  | [], _ :: _, _, hl, _ => by simp at hl
  | _ :: _, [], _, hl, _ => by simp at hl
/-- the readings of a display's pairs -/
def trsOf (X : Cx) : List (Option Expr) → List Expr → List (TE × TE)
  | some k :: ks, v :: vs => (wE X k, wE X v) :: trsOf X ks vs
  | _, _ => []
theorem pps_of {pos : Pos} : ∀ {keys : List (Option Expr)} {values : List Expr}, keys.all (·.isSome) = true → keys.length = values.length → PPs X pos keys values (trsOf X keys values)
  | [], [], _, _ => pps_nil
  | some k :: ks, v :: vs, h, hl => pps_cons pe_w pe_w (pps_of (by simpa using h) (by simpa using hl))
  | none :: _, _, h, _ => by simp at h
  | [], _ :: _, _, hl => by simp at hl
  | _ :: _, [], _, hl => by simp at hl
/-- the pairs of a display with texts as keys -/
structure EDp (X : Cx) (M : Addr → Prop) (e : DE) (cs : Cs) (keys : List (Option Expr)) (values : List Expr) (ks : List Key) (ds : List D) (cs' : Cs) : Prop where
  dm : dom cs' = dom cs
  ok : keys.all (·.isSome) = true ∧ keys.length = values.length ∧ keys.length = ks.length
  k : ∀ (σ : L2.St) (H : Hp) (Q : List (V × V) → Hp → Prop), Sit X.K X.mg M σ H e cs → (∀ vs H', Sit X.K X.mg M σ H' e cs' → Ext (dom cs) H H' → ks.length = vs.length → Rs X.K X.mg M H' vs ds → Q ((ks.zip vs).map fun kv => (kV kv.1, kv.2)) H') → tPairs (trsOf X keys values) σ H Q
theorem dp_nil : EDp X M e cs [] [] [] [] cs := ⟨rfl, ⟨rfl, rfl, rfl⟩, fun σ H Q S k => k [] H S (Ext.refl _ _) rfl Rs.nil⟩
theorem dp_cons {s : Str} {i} {keys : List (Option Expr)} {values : List Expr} {ks : List Key} (ha : EE X M e cs a d cs1) (hr : EDp X M e cs1 keys values ks ds cs2) : EDp X M e cs (some (.Constant (.str s) i p) :: keys) (a :: values) (Sum.inr s :: ks) (d :: ds) cs2 where
  dm := hr.dm.trans ha.dm
  ok := ⟨by simpa using hr.ok.1, by simp [hr.ok.2.1], by simp [← hr.ok.2.2]⟩
  k := fun σ H Q S k => we_of pe_str (ha.k σ H _ S fun v H1 S1 x1 r1 => hr.k σ H1 _ S1 fun vs H2 S2 x2 hl r2 =>
    k (v :: vs) H2 S2 (x1.trans (by rw [← ha.dm]; exact x2)) (by simp [hl]) (.cons (S1.r x2 r1) r2))
theorem mergeK_new : ∀ (more kvs : List (Key × V)), ((kvs ++ more).map (·.1)).Nodup → mergeK kvs more = kvs ++ more
  | [], kvs, _ => by simp [mergeK]
  | q :: r, kvs, h => by
    have hn : valV kvs q.1 = none := by
      have h1 := valV_any q.1 kvs
      cases hv : valV kvs q.1 with
      | none => rfl
      | some v =>
        rw [hv] at h1
        obtain ⟨kv, hk, he⟩ := List.any_eq_true.mp h1
        have he : kv.1 = q.1 := by simpa using he
        rw [List.map_append, List.map_cons] at h
        have := (List.nodup_append.mp h).2.2 kv.1 (List.mem_map_of_mem (f := (·.1)) hk) q.1 List.mem_cons_self
        exact absurd he this
    show mergeK (putK kvs q.1 q.2) r = _
    rw [putK_new q.2 hn, mergeK_new r _ (by simpa using h)]
    simp
theorem e_dic {keys : List (Option Expr)} {values : List Expr} {ks : List Key} (hp : ∀ q, ¬ M q → EDp X (fun b => M b ∨ b = q) e cs keys values ks ds cs1) (hd : dom cs1 = dom cs := by rfl) (h0 : keys ≠ [] := by simp) (h15 : keys.length ≤ 15 := by simp) (hk : ks.Nodup := by decide +kernel) (ho : keys.all (·.isSome) = true ∧ keys.length = values.length ∧ keys.length = ks.length := by exact ⟨rfl, rfl, rfl⟩) : EE X M e cs (.Dict keys values pos) (.dic ks ds) cs1 where
  dm := hd
  k := fun σ H Q S k => we_of (pe_disp (pps_of ho.1 ho.2.1) ho.1 ho.2.1 h0 h15) (fun q hq => by
    have nq := new_m S.mt hq
    have nd : q ∉ dom cs := fun z => by
      obtain ⟨c, hc, e⟩ := List.mem_map.mp z
      exact (S.cel c hc).2.ne (e ▸ hq)
    refine (hp q nq).k σ _ _ (S.mark hq) fun vs H2 S2 x2 hl r2 => ?_
    have h2 : H2 q = some (.dK []) := x2 q _ upd_same nd
    refine ⟨h2, ks.zip vs, rfl, by rw [List.length_zip]; omega, ?_⟩
    have hm : mergeK [] (ks.zip vs) = ks.zip vs := by
      rw [mergeK_new (ks.zip vs) [] (by
        rw [List.nil_append, List.map_fst_zip (by omega)]; exact hk)]
      rfl
    rw [hm]
    have kp : ∀ b o, ¬ (M b ∨ b = q) → H2 b = some o → upd H2 q (.dK (ks.zip vs)) b = some o := fun b o n h => by rw [upd_ne fun z => n (.inr z)]; exact h
    have mr : ∀ b, ¬ (M b ∨ b = q) → H2 b ≠ none → ¬ M b := fun b n _ z => n (.inl z)
    refine k _ _ ⟨fun b m => ?_, S2.len, fun i d h => ?_, fun c hc => ?_, S2.nd⟩ (fun b o h n => ?_) ?_
    · by_cases z : b = q
      · subst z; rw [upd_same]; simp
      · rw [upd_ne z]; exact S2.mt b (.inl m)
    · obtain ⟨v, e1, r⟩ := S2.env i d h
      exact ⟨v, e1, R.ext kp mr d r⟩
    · obtain ⟨m, c2⟩ := S2.cel c hc
      have ne : c.1 ≠ q := fun z => nd (by rw [← hd, ← z]; exact List.mem_map_of_mem (f := (·.1)) hc)
      exact ⟨m.resolve_right ne, c2.ext kp mr fun o h => by rw [upd_ne ne]; exact h⟩
    · have ne : b ≠ q := ne_of_none h hq
      rw [upd_ne ne]
      exact x2 b o (by rw [upd_ne ne]; exact h) n
    · unfold R
      exact ⟨q, vs, rfl, nq, .inl upd_same, hl, Rs.ext kp mr _ r2⟩)
theorem dget_rd {H : Hp} {a : Addr} {kvs : List (Key × V)} {k : Key} (e : Rd H a (.dK kvs)) : DGet H a (kV k) (valV kvs k) := .inl ⟨kvs, k, e, rfl, rfl⟩
/-- d.get(s, y) -/
theorem e_dgetD {s : Str} {ks : List Key} (ha : EE X M e cs a (.dic ks ds) cs1) (hb : EE X M e cs1 b (.str s) cs2) (hc : EE X M e cs2 c y cs3) (hu : X.A.units + 1 < cLine) (hm : M2 X a "get" apos b c pos := by exact ⟨rfl, rfl, rfl, rfl⟩) : EE X M e cs (.Call (.Attribute a "get" apos) [b, c] [] pos) ((dvl ks ds (Sum.inr s)).getD y) cs3 where
  dm := hc.dm.trans (hb.dm.trans ha.dm)
  k := fun σ H Q S k => we_of (pe_dget2 hu pe_w pe_w pe_w hm) (ha.k σ H _ S fun v H1 S1 x1 r1 => by
    unfold R at r1
    obtain ⟨ad, xs, rfl, nm, h1, hl, rs⟩ := r1
    refine ⟨ad, rfl, .inl ⟨_, h1⟩, ?_⟩
    refine hb.k σ H1 _ S1 fun v2 H2 S2 x2 r2 => hc.k σ H2 _ S2 fun v3 H3 S3 x3 r3 => ?_
    simp only [R] at r2
    subst r2
    have h3 : Rd H3 ad (.dK (ks.zip xs)) := rd_ext (fun o q => S2.keeps x3 ad o nm (S1.keeps x2 ad o nm q)) h1
    refine ⟨valV (ks.zip xs) (Sum.inr s), dget_rd (k := (Sum.inr s : Key)) h3, k _ H3 S3 ?_ ?_⟩
    · exact (x1.trans (by rw [← ha.dm]; exact x2)).trans (by rw [← hb.dm.trans ha.dm]; exact x3)
    · rcases dvl_rel (k := (Sum.inr s : Key)) hl (S2.rs x3 (S1.rs x2 rs)) with ⟨e1, e2⟩ | ⟨v, d, e1, e2, r⟩
      · rw [e1, e2]; exact r3
      · rw [e1, e2]; exact r)
/-- d[s] -/
theorem e_dix {s : Str} {ks : List Key} (ha : EE X M e cs a (.dic ks ds) cs1) (hb : EE X M e cs1 b (.str s) cs2) (hv : dvl ks ds (Sum.inr s) = some y) (hu : X.A.units + 1 < cLine) (hs : NoSl b := by intro _ _; rfl) : EE X M e cs (.Subscript a b pos) y cs2 where
  dm := hb.dm.trans ha.dm
  k := fun σ H Q S k => we_of (pe_dget hu pe_w pe_w hs) (ha.k σ H _ S fun v H1 S1 x1 r1 => hb.k σ H1 _ S1 fun v2 H2 S2 x2 r2 => by
    unfold R at r1
    obtain ⟨ad, xs, rfl, nm, h1, hl, rs⟩ := r1
    simp only [R] at r2
    subst r2
    have h3 : Rd H2 ad (.dK (ks.zip xs)) := rd_ext (fun o q => S1.keeps x2 ad o nm q) h1
    rcases dvl_rel (k := (Sum.inr s : Key)) hl (S1.rs x2 rs) with ⟨e1, e2⟩ | ⟨v, d, e1, e2, r⟩
    · rw [hv] at e2; cases e2
    · rw [hv] at e2; cases e2
      have g := dget_rd (k := (Sum.inr s : Key)) h3
      rw [e1] at g
      exact ⟨ad, v, rfl, g, k _ H2 S2 (x1.trans (by rw [← ha.dm]; exact x2)) r⟩)
/-- s in d -/
theorem t_din {s : Str} {ks : List Key} (hb : EE X M e cs b (.str s) cs1) (ha : EE X M e cs1 a (.dic ks ds) cs2) (hu : X.A.units + 1 < cLine) (hm : behindInMarks CmpOp.In a = false := by rfl) : ET X M e cs (.Compare b [.In] [a] pos) (dvl ks ds (Sum.inr s)).isSome cs2 where
  dm := ha.dm.trans hb.dm
  k := fun σ H Q S k => wt_of (pt_cmp (pc_din hu pe_w pe_w) hm) (hb.k σ H _ S fun v2 H1 S1 x1 r2 => ha.k σ H1 _ S1 fun v H2 S2 x2 r1 => by
    unfold R at r1
    obtain ⟨ad, xs, rfl, nm, h1, hl, rs⟩ := r1
    simp only [R] at r2
    subst r2
    refine ⟨ad, _, rfl, dget_rd (k := (Sum.inr s : Key)) h1, _, rfl, ?_⟩
    have : (valV (ks.zip xs) (Sum.inr s : Key)).isSome = (dvl ks ds (Sum.inr s)).isSome := by
      rcases dvl_rel (k := (Sum.inr s : Key)) hl rs with ⟨e1, e2⟩ | ⟨v, d, e1, e2, r⟩
      · rw [e1, e2]; rfl
      · rw [e1, e2]; rfl
    rw [this]
    exact k H2 S2 (x1.trans (by rw [← hb.dm]; exact x2)))
end
end Od

set_option Elab.async false
set_option linter.all false
set_option maxRecDepth 100000
set_option maxHeartbeats 4000000
/-! FmS: texts of formulas, sign for sign (taken out of K6a, K6b; no program in it) -/
namespace Od
open PySem L2 TL PySem.Spec
/-- t stands in s from i on -/
def Std (s : List Nat) (i : Nat) (t : List Nat) : Prop := ∃ post, s.drop i = t ++ post
theorem Std.left {s : List Nat} {i : Nat} {t u : List Nat} (h : Std s i (t ++ u)) : Std s i t := by
  obtain ⟨p, h⟩ := h
  exact ⟨u ++ p, by rw [h, List.append_assoc]⟩
theorem Std.right {s : List Nat} {i : Nat} {t u : List Nat} (h : Std s i (t ++ u)) : Std s (i + t.length) u := by
  obtain ⟨p, h⟩ := h
  refine ⟨p, ?_⟩
  rw [← List.drop_drop, h, List.append_assoc, List.drop_left]
theorem Std.le {s : List Nat} {i : Nat} {t : List Nat} (h : Std s i t) (ht : t ≠ []) : i + t.length ≤ s.length := by
  obtain ⟨p, h⟩ := h
  have := congrArg List.length h
  simp at this
  have : 0 < t.length := List.length_pos_iff.mpr ht
  omega
theorem Std.sign {s : Str} {i c : Nat} {r : List Nat} (h : Std (tl s) i (c :: r)) : cutS s (some (i : Int)) (some ((i : Int) + 1)) = sg c := by
  have hl := h.le (by simp)
  obtain ⟨p, h⟩ := h
  apply ext_tl
  unfold cutS
  have hs : s.length = (tl s).length := len_tl s
  simp at hl
  have e1 : HT.sIx s.length 0 (some (i : Int)) = i := by rw [HT.sIx_nat]; rw [hs]; simp; omega
  have e2 : HT.sIx s.length s.length (some ((i : Int) + 1)) = i + 1 := by
    rw [show ((i : Int) + 1) = ((i + 1 : Nat) : Int) by omega, HT.sIx_nat]; rw [hs]; simp; omega
  rw [e1, e2]
  show ((tl s).drop i).take (i + 1 - i) = [c]
  rw [h]
  have : i + 1 - i = 1 := by omega
  rw [this]; rfl
/-- what stands behind the bracket -/
def inText (o : Op) (a b : Fm) : List Nat := tl a.t ++ tl o.s ++ tl b.t ++ [41]
theorem tl_bin {o : Op} {a b : Fm} (h : ¬ (o = .im ∧ b = .cst false)) : tl (Fm.bin o a b).t = 40 :: inText o a b := by
  have e : (Fm.bin o a b).t = ("(" : Str) ++ a.t ++ o.s ++ b.t ++ (")" : Str) := by
    conv => lhs; unfold Fm.t
    exact if_neg h
  rw [e, tl_app, tl_app, tl_app, tl_app, show tl (("(" : Str)) = [40] by decide +kernel, show tl ((")" : Str)) = [41] by decide +kernel]
  unfold inText; simp
theorem tl_neg {a : Fm} : tl (Fm.bin .im a (.cst false)).t = 45 :: tl a.t := by
  have e : (Fm.bin .im a (.cst false)).t = ("-" : Str) ++ a.t := by
    conv => lhs; unfold Fm.t
    exact if_pos ⟨rfl, rfl⟩
  rw [e, tl_app, show tl (("-" : Str)) = [45] by decide +kernel]; rfl
theorem sgn (c : Nat) (s : Str) (h : tl s = [c]) : s = sg c := ext_tl (by rw [h]; rfl)
theorem t1 : (("1" : Str)) = sg 49 := sgn _ _ (by decide +kernel)
theorem t0 : (("0" : Str)) = sg 48 := sgn _ _ (by decide +kernel)
theorem tm : (("-" : Str)) = sg 45 := sgn _ _ (by decide +kernel)
theorem tb : (("(" : Str)) = sg 40 := sgn _ _ (by decide +kernel)
theorem sg_ne {a b : Nat} (h : a ≠ b) : decide (sg a = sg b) = false := by
  rw [decide_eq_false_iff_not]
  intro z
  have := congrArg tl z
  simp at this; exact h this
theorem sg_eq {a : Nat} : decide (sg a = sg a) = true := by simp
theorem let_ge {c : Nat} (h : c ∈ alpha) : 97 ≤ c := by
  obtain ⟨k, _, rfl⟩ := List.mem_map.mp h
  omega
theorem first_sign (f : Fm) : ∃ c r, tl f.t = c :: r := by
  cases f with
  | cst b => cases b <;> exact ⟨_, _, rfl⟩
  | le c => exact ⟨c, [], rfl⟩
  | bin o a b =>
    by_cases h : o = .im ∧ b = .cst false
    · obtain ⟨rfl, rfl⟩ := h
      exact ⟨_, _, tl_neg⟩
    · exact ⟨_, _, tl_bin h⟩
theorem inText_parts {o : Op} {a b : Fm} {s : List Nat} {i : Nat} (h : Std s i (inText o a b)) : Std s i (tl a.t) ∧ Std s (i + (tl a.t).length) (tl o.s) ∧ Std s (i + (tl a.t).length + (tl o.s).length) (tl b.t) ∧ Std s (i + (tl a.t).length + (tl o.s).length + (tl b.t).length) [41] := by
  unfold inText at h
  have h1 := h.left
  have h2 := h1.left
  have e3 := Std.right (t := tl a.t ++ tl o.s ++ tl b.t) (u := [41]) h
  have e2 := Std.right (t := tl a.t ++ tl o.s) (u := tl b.t) h1
  have e1 := Std.right (t := tl a.t) (u := tl o.s) h2
  simp only [List.length_append] at e2 e3
  refine ⟨h2.left, e1, ?_, ?_⟩
  · rw [show i + (tl a.t).length + (tl o.s).length = i + ((tl a.t).length + (tl o.s).length) by omega]; exact e2
  · rw [show i + (tl a.t).length + (tl o.s).length + (tl b.t).length = i + ((tl a.t).length + (tl o.s).length + (tl b.t).length) by omega]; exact e3
/-- the sign of the operator -/
def opc : Op → Nat
  | .an => 38
  | .orr => 124
  | .im => 45
def opt : Op → List Nat
  | .an => [38]
  | .orr => [124]
  | .im => [45, 62]
def ops : Op → Str
  | .an => "&"
  | .orr => "|"
  | .im => "->"
theorem tl_ops (o : Op) : tl (ops o) = opt o := by cases o <;> decide +kernel
theorem tl_os (o : Op) : tl o.s = 32 :: (opt o ++ [32]) := by cases o <;> decide +kernel
theorem opt_c (o : Op) : ∃ r, opt o = opc o :: r := by cases o <;> exact ⟨_, rfl⟩
theorem Std.at {s : Str} {i c : Nat} {r : List Nat} (h : Std (tl s) i (c :: r)) : i < s.cps.toList.length ∧ s.cps.toList[i]? = some c := by
  have hl := h.le (by simp)
  obtain ⟨p, h⟩ := h
  refine ⟨by show i < (tl s).length; simp only [List.length_cons] at hl; omega, ?_⟩
  show (tl s)[i]? = _
  have : ((tl s).drop i)[0]? = some c := by rw [h]; rfl
  simpa using this
theorem xd_std {X : Cx} {s : Str} {i c : Nat} {r : List Nat} (h : Std (tl s) i (c :: r)) (hl : s.length ≤ 100000) : IxD X (.str s) (.int (i : Int)) (.str (sg c)) :=
  xd_str (Nat.le_trans hl (by decide)) (ixN_nat h.at.1) h.at.2
theorem abc : tl (("abcdefghijklmnopqrstuvwxyz" : Str)) = alpha := by decide +kernel
end Od

set_option Elab.async false
set_option linter.all false
set_option maxRecDepth 100000
set_option maxHeartbeats 4000000
namespace Od
open PySem L2
def top (i : Nat) : Stmt := PySem.Challenge.pw_oneroot_k13_trees_joined.main.body.getD i (.Pass ⟨0, 0, 0, 0⟩)
abbrev sCells : Stmt := top 24
abbrev sDraw : Stmt := top 25
abbrev sOne : Stmt := top 26
local macro_rules
  | `(tactic| walk_at "bd") => `(tactic| first | exact bd_add | exact bd_sub | exact bd_mulR (by decide) | exact bd_mulL (by decide) | exact bd_mod (by decide) | exact bd_div (by decide))
local macro_rules
  | `(tactic| walk_at "cd") => `(tactic| first | exact cd_lt | exact cd_le | exact cd_gt | exact cd_ge | exact cd_eqI)
local macro_rules
  | `(tactic| walk_at "le") => `(tactic| repeat (first | exact LeD.nil | apply LeD.drop | apply LeD.same))
/-- what a law draws from -/
structure Bag where
  cells : List Int
  pl : Nat
  acc : Int
  seed : Int
  n : Int
def Bag.c (b : Bag) : MC := .lst [.lst (b.cells.map .int), .int b.pl, .int b.acc, .int b.seed, .int b.n]
structure Bag.Ok (b : Bag) : Prop where
  lo : 0 ≤ b.seed
  hi : b.seed < 2147483629
def Bag.fill (b : Bag) : Bag :=
  if b.acc = 0 ∧ b.pl < b.cells.length then
    (if 10 ^ 18 ≤ b.cells.getD b.pl 0 then { b with pl := b.pl + 1, acc := b.cells.getD b.pl 0 }
    else { b with pl := b.pl + 1, seed := (b.seed * 40771 + b.cells.getD b.pl 0 % 2147483477 * 30637 + 43) % 2147483629 })
  else b
def Bag.next (b : Bag) : Bag := { b with seed := (b.seed * b.seed * 7 + b.seed * 38669 + b.n * 1299677 + 65293) % 2147483629 }
def Bag.tick (b : Bag) : Bag := ({ b with n := b.n + 1 } : Bag).fill
def draw (b : Bag) (s : Int) : Int × Bag :=
  if 0 < b.tick.acc then (b.tick.acc % s, { b.tick with acc := b.tick.acc / s })
  else ((b.tick.next.seed / 89 + b.tick.next.seed % 7907 * 61) % s, b.tick.next)
theorem mod_ok (x : Int) : 0 ≤ x % 2147483629 ∧ x % 2147483629 < 2147483629 := ⟨Int.emod_nonneg _ (by decide), Int.emod_lt_of_pos _ (by decide)⟩
theorem Bag.Ok.fill {b : Bag} (h : b.Ok) : b.fill.Ok := by
  unfold Bag.fill
  split
  · split
    · exact ⟨h.lo, h.hi⟩
    · exact ⟨(mod_ok _).1, (mod_ok _).2⟩
  · exact h
theorem Bag.Ok.tick {b : Bag} (h : b.Ok) : b.tick.Ok := Bag.Ok.fill ⟨h.lo, h.hi⟩
theorem draw_ok {b : Bag} (h : b.Ok) (s : Int) : (draw b s).2.Ok := by
  unfold draw
  split
  · exact ⟨h.tick.lo, h.tick.hi⟩
  · exact ⟨(mod_ok _).1, (mod_ok _).2⟩
theorem draw_lo {b : Bag} {s : Int} (h : 0 < s) : 0 ≤ (draw b s).1 ∧ (draw b s).1 < s := by
  unfold draw
  split
  · exact ⟨Int.emod_nonneg _ (by omega), Int.emod_lt_of_pos _ h⟩
  · exact ⟨Int.emod_nonneg _ (by omega), Int.emod_lt_of_pos _ h⟩
structure DrI where
  ad : Addr
  b : Bag
  s : Int
structure DrI.Pre (i : DrI) : Prop where
  ok : i.b.Ok
  pos : 0 < i.s
  lg : i.s.natAbs.log2 < 9000
section
variable (P : Program) (w : World) (K : PySem.W.Frag) (mg : Str → Option Value) (base : Heap)
/-- the built-ins are what they are -/
structure Blt : Prop where
  len : mg "len" = none
  int : mg "int" = none
  list : mg "list" = none
  sorted : mg "sorted" = none
  range : mg "range" = none
  isinstance : mg "isinstance" = none
  all : mg "all" = none
  any : mg "any" = none
  zip : mg "zip" = none
  sum : mg "sum" = none
  max : mg "max" = none
  str : mg "str" = none
  bool : mg "bool" = none
  tuple : mg "tuple" = none
  set : mg "set" = none
abbrev DrawD (k : Nat) : Prop := Dfn P w K mg base "_law_draw" k (fnSp K mg DrI.Pre (fun i => [.ref i.ad, .int i.s]) (fun i => [(i.ad, i.b.c)]) (fun i => .int (draw i.b i.s).1) (fun i => [(i.ad, (draw i.b i.s).2.c)]))
variable {P w K mg base}
theorem scDraw : FnScope ["_law_bag", "_law_sides", "_law_cell", "_law_digit", "_law_seed"] ["_law_bag", "_law_sides"] (defScope sDraw) := ⟨rfl, rfl, rfl, by decide +kernel, rfl, by decide +kernel, by decide +kernel⟩
theorem ok_draw {f : Addr} {fd : FuncData} (F : Fun K "_law_draw" "_law_draw" sDraw f fd) (hm : mg "_law_draw" = some (.ref f)) (hb : Binds K fd ["_law_bag", "_law_sides"] []) (B : Blt mg) : DrawD P w K mg base 3 := by
  refine dfn_of F hm scDraw hb (fun i => rfl) fun cdv A outer s H0 E i M Q hp hr kq => ?_
  obtain ⟨ad, b, sd⟩ := i
  obtain ⟨ok, pos, lg⟩ := hp
  dsimp only at ok pos lg kq
  refine at_sub (j := 4) (e_bin (e_ixc (e_name 0 rfl) e_int (.head _) rfl rfl) e_int (by walk_at "bd")) (e_name 0 rfl) e_int .here rfl ?_
  refine at_ifT [some (.ref ad), some (.int sd), none, none, none] [(ad, b.tick.c)]
    (t_ew (t_and (t_cmp (e_ixc (e_name 0 rfl) e_int (.head _) rfl rfl) e_int (by walk_at "cd")) fun _ => t_and1 (t_cmp (e_ixc (e_name 0 rfl) e_int (.head _) rfl rfl) (e_blt kd_lenL (a_cons (e_ixc (e_name 0 rfl) e_int (.head _) rfl rfl) a_nil) B.len) (by walk_at "cd"))))
    (fun nx k h => ?_) (fun nx k h => ?_) ?_
  · simp only [Bool.and_eq_true, decide_eq_true_eq, List.length_map] at h
    obtain ⟨h1, h2⟩ := h
    have hx : (b.cells.map D.int)[b.pl]? = some (.int (b.cells.getD b.pl 0)) := by
      have : b.pl < b.cells.length := by omega
      simp [List.getD, this]
    refine at_set 2 (e_ix (e_ixc (e_name 0 rfl) e_int (.head _) rfl rfl) (e_ixc (e_name 0 rfl) e_int (.head _) rfl rfl) (xd_lst (ixN_nat (by simpa using h2)) hx)) ?_ scDraw.nd
    refine at_sub (j := 1) (e_bin (e_ixc (e_name 0 rfl) e_int (.head _) rfl rfl) e_int (by walk_at "bd")) (e_name 0 rfl) e_int .here rfl ?_
    refine at_if (t_cmp (e_name 2 rfl) (e_bin e_int e_int (bd_pow (by decide))) (by walk_at "cd")) (fun g => ?_) fun g => ?_
    · refine at_sub (j := 2) (e_name 2 rfl) (e_name 0 rfl) e_int .here rfl ?_
      refine at_nil (at_nil (at_go k (by walk_at "le") ?_))
      simp only [decide_eq_true_eq] at g
      have e : b.tick = { b with n := b.n + 1, pl := b.pl + 1, acc := b.cells.getD b.pl 0 } := by
        have g' : (10 : Int) ^ 18 ≤ b.cells.getD b.pl 0 := g
        have h2' : b.pl < b.cells.length := by omega
        unfold Bag.tick Bag.fill
        exact Eq.trans (if_pos ⟨h1, h2'⟩) (if_pos g')
      rw [e]
      rfl
    · refine at_sub (j := 3) (e_bin (e_bty kd_int (a_cons (e_bin (e_bin (e_bin (e_ixc (e_name 0 rfl) e_int (.head _) rfl rfl) e_int (by walk_at "bd")) (e_bin (e_bin (e_bty kd_int (a_cons (e_name 2 rfl) a_nil) B.int) e_int (by walk_at "bd")) e_int (by walk_at "bd")) (by walk_at "bd")) e_int (by walk_at "bd")) a_nil) B.int) e_int (by walk_at "bd")) (e_name 0 rfl) e_int .here rfl ?_
      refine at_nil (at_nil (at_go k (by walk_at "le") ?_))
      simp only [decide_eq_false_iff_not] at g
      have e : b.tick = { b with n := b.n + 1, pl := b.pl + 1, seed := (b.seed * 40771 + b.cells.getD b.pl 0 % 2147483477 * 30637 + 43) % 2147483629 } := by
        have g' : ¬ (10 : Int) ^ 18 ≤ b.cells.getD b.pl 0 := g
        have h2' : b.pl < b.cells.length := by omega
        unfold Bag.tick Bag.fill
        exact Eq.trans (if_pos ⟨h1, h2'⟩) (if_neg g')
      rw [e]
      rfl
  · refine at_nil (at_go k (by walk_at "le") ?_)
    have e : b.tick = { b with n := b.n + 1 } := by
      unfold Bag.tick Bag.fill
      refine if_neg fun z => ?_
      simp only [Bool.and_eq_false_iff, decide_eq_false_iff_not, List.length_map] at h
      rcases h with h | h
      · exact h z.1
      · exact h (by have := z.2; simp only at this; omega)
    rw [e]
    rfl
  · have tok := ok.tick
    refine at_if (t_cmp (e_ixc (e_name 0 rfl) e_int (.head _) rfl rfl) e_int (by walk_at "cd")) (fun g => ?_) fun g => ?_
    · simp only [decide_eq_true_eq] at g
      refine at_set 3 (e_bin (e_bty kd_int (a_cons (e_ixc (e_name 0 rfl) e_int (.head _) rfl rfl) a_nil) B.int) (e_name 1 rfl) (bd_mod pos)) ?_ scDraw.nd
      refine at_sub (j := 2) (e_bin (e_ixc (e_name 0 rfl) e_int (.head _) rfl rfl) (e_name 1 rfl) (bd_div ⟨pos, lg⟩)) (e_name 0 rfl) e_int .here rfl ?_
      have e : draw b sd = (b.tick.acc % sd, { b.tick with acc := b.tick.acc / sd }) := by
        unfold draw; rw [if_pos g]
      rw [e] at kq
      exact at_end (e_name 3 rfl) rfl (.head _) kq
    · simp only [decide_eq_false_iff_not] at g
      have e : draw b sd = ((b.tick.next.seed / 89 + b.tick.next.seed % 7907 * 61) % sd, b.tick.next) := by
        unfold draw; rw [if_neg g]
      rw [e] at kq
      refine at_nil ?_
      refine at_set 4 (e_ixc (e_name 0 rfl) e_int (.head _) rfl rfl) ?_ scDraw.nd
      have l1 := tok.lo
      have l2 := tok.hi
      refine at_sub (j := 3) (e_bin (e_bty kd_int (a_cons (e_bin (e_bin (e_bin (e_bin (e_bin (e_name 4 rfl) (e_name 4 rfl) (bd_mulL ⟨by omega, by omega⟩)) e_int (by walk_at "bd")) (e_bin (e_name 4 rfl) e_int (by walk_at "bd")) (by walk_at "bd")) (e_bin (e_ixc (e_name 0 rfl) e_int (.head _) rfl rfl) e_int (by walk_at "bd")) (by walk_at "bd")) e_int (by walk_at "bd")) a_nil) B.int) e_int (by walk_at "bd")) (e_name 0 rfl) e_int .here rfl ?_
      refine at_end (e_bin (e_bty kd_int (a_cons (e_bin (e_bin (e_ixc (e_name 0 rfl) e_int (.head _) rfl rfl) e_int (by walk_at "bd")) (e_bin (e_bin (e_bty kd_int (a_cons (e_ixc (e_name 0 rfl) e_int (.head _) rfl rfl) a_nil) B.int) e_int (by walk_at "bd")) e_int (by walk_at "bd")) (by walk_at "bd")) a_nil) B.int) (e_name 1 rfl) (bd_mod pos)) rfl (.head _) kq
end
end Od

set_option Elab.async false
set_option linter.all false
set_option maxRecDepth 100000
set_option maxHeartbeats 4000000
namespace Od
open PySem L2 TL PySem.Spec
abbrev sSigns : Stmt := top 30
-- (not here) abbrev sLeaf : Stmt := top 20
-- (not here) abbrev sForm : Stmt := top 21
local macro_rules
  | `(tactic| walk_at "bd") => `(tactic| first | exact bd_add | exact bd_sub | exact bd_mulR (by decide) | exact bd_mulL (by decide) | exact bd_mod (by decide) | exact bd_div (by decide))
local macro_rules
  | `(tactic| walk_at "cd") => `(tactic| first | exact cd_lt | exact cd_le | exact cd_gt | exact cd_ge | exact cd_eqI | exact cd_eqS)
local macro_rules
  | `(tactic| walk_at "le") => `(tactic| repeat (first | exact LeD.nil | apply LeD.drop | apply LeD.same))
/-! ### the bag at the start -/
def seed0 (s : Int) : List Int → Int
  | [] => s
  | c :: r => seed0 ((s * 45161 + c % 2147483477 + 31) % 2147483629) r
theorem seed0_ok : ∀ (cs : List Int) {s : Int}, 0 ≤ s ∧ s < 2147483629 → 0 ≤ seed0 s cs ∧ seed0 s cs < 2147483629
  | [], _, h => h
  | c :: r, _, h => seed0_ok r (mod_ok _)
theorem seed0_take {cs : List Int} : ∀ {s : Int} {i : Nat} (h : i < cs.length), seed0 s (cs.take (i + 1)) = (seed0 s (cs.take i) * 45161 + cs.getD i 0 % 2147483477 + 31) % 2147483629 := by
  induction cs with
  | nil => intro s i h; simp at h
  | cons c r ih =>
    intro s i h
    cases i with
    | zero => simp [seed0]
    | succ i =>
      simp only [List.take_succ_cons, seed0]
      rw [ih (by simpa using h)]
      simp
def bag0 (cs : List Int) : Bag := ⟨cs, 0, 0, seed0 5624 cs, 0⟩
theorem bag0_ok (cs : List Int) : (bag0 cs).Ok := ⟨(seed0_ok cs (by decide)).1, (seed0_ok cs (by decide)).2⟩
def Bag.d (b : Bag) : List D := [.lst (b.cells.map .int), .int b.pl, .int b.acc, .int b.seed, .int b.n]
section
variable (P : Program) (w : World) (K : PySem.W.Frag) (mg : Str → Option Value) (base : Heap)
abbrev CellsD (k : Nat) : Prop := Dfn P w K mg base "_law_cells" k (fnSpN K mg (fun ns : List Int => ns.length ≤ 63) (fun ns => [.scr ns]) (fun ns => (bag0 ns).d))
/-- what may be chosen from -/
def itemD : D → Nat → D
  | .lst ds, i => ds.getD i .non
  | .str s, i => .str (sg ((tl s).getD i 0))
  | _, _ => .non
def lenD : D → Nat
  | .lst ds => ds.length
  | .str s => s.length
  | _ => 0
structure OnI where
  ad : Addr
  b : Bag
  t : D
structure OnI.Pre (i : OnI) : Prop where
  ok : i.b.Ok
  pos : 0 < lenD i.t
  le : lenD i.t ≤ 100000
abbrev OneD (k : Nat) : Prop := Dfn P w K mg base "_law_one" k (fnSp K mg OnI.Pre (fun i => [.ref i.ad, i.t]) (fun i => [(i.ad, i.b.c)]) (fun i => itemD i.t (draw i.b (lenD i.t)).1.toNat) (fun i => [(i.ad, (draw i.b (lenD i.t)).2.c)]))
variable {P w K mg base}
theorem scCells : FnScope ["_law_script", "_law_seed", "_law_cell"] ["_law_script"] (defScope sCells) := ⟨rfl, rfl, rfl, by decide +kernel, rfl, by decide +kernel, by decide +kernel⟩
theorem cut63 {ns : List Int} (h : ns.length ≤ 63) : cutD (ns.map D.int) none (some 63) = ns.map D.int := by
  have l : (ns.map D.int).length = ns.length := by simp
  have e : HT.sIx (ns.map D.int).length (ns.map D.int).length (some 63) = ns.length := by
    rw [l]
    unfold HT.sIx
    simp
    omega
  unfold cutD
  rw [e]
  show ((ns.map D.int).drop 0).take (ns.length - 0) = _
  simp
  exact List.take_of_length_le (by simp)
theorem ok_cells {f : Addr} {fd : FuncData} (F : Fun K "_law_cells" "_law_cells" sCells f fd) (hm : mg "_law_cells" = some (.ref f)) (hb : Binds K fd ["_law_script"] []) (B : Blt mg) : CellsD P w K mg base 2 := by
  refine dfnN_of F hm scCells hb (fun i => rfl) fun cdv A outer s H0 E ns M Q hp hr kq => ?_
  refine at_set 1 e_int ?_ scCells.nd
  refine at_for (α := fun _ => Unit) (ds := ns.map D.int) (fun _ _ => True) (fun i _ => [some (.scr ns), some (.int (seed0 5624 (ns.take i))), none]) (fun _ _ => [])
    (ei_list ((e_slice (e_name 0 rfl) o_none (o_some e_int) sd_scr).eq (by rw [cut63 hp]))) (ltg_name 2 scCells.nd) (fun _ _ => trivial) () trivial rfl rfl (fun _ _ _ => rfl) (fun i d g H1 hd _ => ?_) fun g _ => ?_
  · have hi : i < ns.length := by
      have := (List.getElem?_eq_some_iff.mp hd).1
      simpa using this
    have e : d = .int (ns.getD i 0) := by
      simp [hi] at hd
      simp [List.getD, hi, hd]
    subst e
    refine at_set 1 (e_bin (e_bty kd_int (a_cons (e_bin (e_bin (e_bin (e_name 1 rfl) e_int (by walk_at "bd")) (e_bin (e_bty kd_int (a_cons (e_name 2 rfl) a_nil) B.int) e_int (by walk_at "bd")) (by walk_at "bd")) e_int (by walk_at "bd")) a_nil) B.int) e_int (by walk_at "bd")) ?_ scCells.nd
    refine at_nil (at_go (at_inv (e := [some (.scr ns), some (.int (seed0 5624 (ns.take (i + 1)))), none]) () trivial rfl rfl) ?_ rfl)
    rw [seed0_take hi]
    walk_at "le"
  · have e : ns.take (ns.map D.int).length = ns := by simp
    rw [e]
    refine at_endN (a_cons (e_bty kd_listL (a_cons (e_slice (e_name 0 rfl) o_none (o_some e_int) sd_scr) a_nil) B.list) (a_cons e_int (a_cons e_int (a_cons (e_name 1 rfl) (a_cons e_int a_nil))))) ?_ (by show 5 ≤ 100000; decide) (.head _) kq
    rw [cut63 hp]; rfl
theorem scOne : FnScope ["_law_bag", "_law_things"] ["_law_bag", "_law_things"] (defScope sOne) := ⟨rfl, rfl, rfl, by decide +kernel, rfl, by decide +kernel, by decide +kernel⟩
end
section
variable {X : Cx} {M : Addr → Prop} {e : DE} {cs cs1 cs2 cs3 : Cs} {pos p pos' apos : Pos} {a c ex o : Expr}
/-- _law_draw(bag, n) -/
theorem e_draw {x : Expr} {ad : Addr} {b : Bag} {n : Int} (F : DrawD X.prog X.w X.K X.mg X.base 3) (hr : Room 3 X.A) (ha : EE X M e cs a (.ref ad) cs) (hx : EE X M e cs x (.int n) cs1) (hu : Upd1 ad b.c (draw b n).2.c cs1 cs2) (ok : b.Ok) (hp : 0 < n ∧ n.natAbs.log2 < 9000) (hg : Gl X "_law_draw" := by rfl)
    (he : starEach [a, x] X.env = (false, eval a X.env) :: starEach [x] X.env := by rfl) (he2 : starEach [x] X.env = (false, eval x X.env) :: starEach [] X.env := by rfl) (hpl : (backTo pos (starEach [x] X.env)).any (·.1) = false := by rfl) : EE X M e cs (.Call (.Name "_law_draw" p) [a, x] [] pos) (.int (draw b n).1) cs2 :=
  e_call1 F hr (a_cons ha (a_cons hx a_nil he2) he) ⟨ad, b, n⟩ ⟨ok, hp.1, hp.2⟩ rfl rfl rfl hu hg (by decide) he hpl
/-- _law_one(bag, things) -/
theorem e_oneL {x : Expr} {ad : Addr} {b : Bag} {t : D} (F : OneD X.prog X.w X.K X.mg X.base 4) (hr : Room 4 X.A) (ha : EE X M e cs a (.ref ad) cs) (hx : EE X M e cs x t cs1) (hu : Upd1 ad b.c (draw b (lenD t)).2.c cs1 cs2) (ok : b.Ok) (hp : 0 < lenD t ∧ lenD t ≤ 100000) (hg : Gl X "_law_one" := by rfl)
    (he : starEach [a, x] X.env = (false, eval a X.env) :: starEach [x] X.env := by rfl) (he2 : starEach [x] X.env = (false, eval x X.env) :: starEach [] X.env := by rfl) (hpl : (backTo pos (starEach [x] X.env)).any (·.1) = false := by rfl) : EE X M e cs (.Call (.Name "_law_one" p) [a, x] [] pos) (itemD t (draw b (lenD t)).1.toNat) cs2 :=
  e_call1 F hr (a_cons ha (a_cons hx a_nil he2) he) ⟨ad, b, t⟩ ⟨ok, hp.1, hp.2⟩ rfl rfl rfl hu hg (by decide) he hpl
end
section
variable {P : Program} {w : World} {K : PySem.W.Frag} {mg : Str → Option Value} {base : Heap}
theorem log2_le {n : Nat} (h : n ≤ 100000) : ((n : Int)).natAbs.log2 < 9000 := by
  have : (n : Int).natAbs = n := by simp
  rw [this]
  have h1 : n.log2 ≤ n := Nat.log2_le_self n
  by_cases hn : n = 0
  · subst hn; decide
  · have : n.log2 < 17 := (Nat.log2_lt hn).mpr (by omega)
    omega
theorem draw_ix {b : Bag} {n : Nat} (h : 0 < n) : ixN n (draw b n).1 = some (draw b n).1.toNat ∧ (draw b n).1.toNat < n := by
  have := draw_lo (b := b) (s := n) (by omega)
  exact ⟨ixN_int this.1 this.2, by omega⟩
theorem ok_one {f : Addr} {fd : FuncData} (F : Fun K "_law_one" "_law_one" sOne f fd) (hm : mg "_law_one" = some (.ref f)) (hb : Binds K fd ["_law_bag", "_law_things"] []) (B : Blt mg) (D0 : DrawD P w K mg base 3) : OneD P w K mg base 4 := by
  refine dfn_of F hm scOne hb (fun i => rfl) fun cdv A outer s H0 E i M Q hp hr kq => ?_
  obtain ⟨ad, b, t⟩ := i
  obtain ⟨ok, pos, le⟩ := hp
  dsimp only at ok pos le kq
  obtain ⟨x1, x2⟩ := draw_ix (b := b) pos
  cases t with
  | lst ds =>
    have hd : ds[(draw b ds.length).1.toNat]? = some (ds.getD (draw b ds.length).1.toNat .non) := by
      have x2' : (draw b ds.length).1.toNat < ds.length := x2
      simp [List.getD, x2']
    exact at_end (e_ix (e_name 1 rfl) (e_draw D0 hr (e_name 0 rfl) (e_blt kd_lenL (a_cons (e_name 1 rfl) a_nil) B.len) .here ok ⟨by show (0 : Int) < ds.length; have : 0 < ds.length := pos; omega, log2_le le⟩) (xd_lst x1 hd)) rfl (.head _) kq
  | str s =>
    have hl : s.cps.toList.length = s.length := (len_tl s).symm
    have hd : s.cps.toList[(draw b s.length).1.toNat]? = some ((tl s).getD (draw b s.length).1.toNat 0) := by
      have x2' : (draw b s.length).1.toNat < s.cps.toList.length := by rw [hl]; exact x2
      simp [List.getD]
      have : (draw b s.length).1.toNat < s.cps.size := by simpa using x2'
      simp [this]
    have hz : s.length ≤ sizeLine := Nat.le_trans le (by decide)
    exact at_end (e_ix (e_name 1 rfl) (e_draw D0 hr (e_name 0 rfl) (e_blt (kd_lenS hz) (a_cons (e_name 1 rfl) a_nil) B.len) .here ok ⟨by show (0 : Int) < s.length; have : 0 < s.length := pos; omega, log2_le le⟩) (xd_str hz (by rw [hl]; exact x1) hd)) rfl (.head _) kq
  | _ => simp [lenD] at pos
end
end Od

set_option Elab.async false
set_option linter.all false
set_option maxRecDepth 100000
set_option maxHeartbeats 4000000
/-! Od19: zip of two tuples. -/
namespace Od
open PySem L2
section
variable {X : Cx} {M : Addr → Prop} {e : DE} {cs cs1 cs2 : Cs} {pos p tpos : Pos} {a b : Expr} {ds es' : List D}
theorem sqT_of {H : Hp} {ad : Addr} {xs : List V} (h : (¬ M ad ∧ H ad = some (.tup xs)) ∨ KT X.K ad xs) : SqT X.K H ad xs := h.elim (fun q => .inl (.inl q.2)) .inr
theorem tupR {H : Hp} {v : V} (r : R X.K X.mg M H v (.tup ds)) : ∃ (a : Addr) (xs : List V), v = .ref a ∧ ((¬ M a ∧ H a = some (.tup xs)) ∨ KT X.K a xs) ∧ Rs X.K X.mg M H xs ds := by unfold R at r; exact r
theorem walks_zipT {H : Hp} {aa ab : Addr} {xs ys : List V} (ha : (¬ M aa ∧ H aa = some (.tup xs)) ∨ KT X.K aa xs) (hb : (¬ M ab ∧ H ab = some (.tup ys)) ∨ KT X.K ab ys) (ra : Rs X.K X.mg M H xs ds) (rb : Rs X.K X.mg M H ys es') : Walks X M (RZ.ItzT X.K aa ab) (pairs ds es') H := fun M2 H2 kp mt => by
  have h2 : SqT X.K H2 aa xs := sqT_of (M := M2) (ha.imp_left fun q => kp aa _ q.1 q.2)
  have h3 : SqT X.K H2 ab ys := sqT_of (M := M2) (hb.imp_left fun q => kp ab _ q.1 q.2)
  have l1 := ra.length
  have l2 := rb.length
  refine ⟨fun i d hd => ?_, ⟨xs, ys, h2, h3, ?_⟩⟩
  · obtain ⟨x, y, rfl, hx, hy⟩ := pairs_get hd
    obtain ⟨u, hu, ru⟩ := ra.get hx
    obtain ⟨v, hv, rv⟩ := rb.get hy
    refine ⟨⟨xs, ys, u, v, h2, h3, hu, hv⟩, fun z H3 w => ?_⟩
    obtain ⟨T, x', y', rfl, hT, rfl, w1, w2⟩ := w
    have e1 := w1 xs h2
    have e2 := w2 ys h3
    rw [hu] at e1; rw [hv] at e2
    cases e1; cases e2
    exact ⟨Ext.new hT, r_newt mt hT (.cons (later kp ru) (.cons (later kp rv) .nil))⟩
  · rw [pairs_len, l1, l2]
    omega
theorem ei_zipT {elts : List Expr} {kk : Nat} {tpos : Pos} (ha : EE X M e cs a (.tup ds) cs1) (hb : EE X M e cs1 b (.tup es') cs2) (hm : X.mg "zip" = none) (hg : Gl X "zip" := by rfl)
    (hs : starEach [a, b] X.env = (false, eval a X.env) :: starEach [b] X.env := by rfl) (hs2 : starEach [b] X.env = (false, eval b X.env) :: starEach [] X.env := by rfl) (hpl : (backTo pos (starEach [b] X.env)).any (·.1) = false := by rfl) : EI X M e cs (.Tuple elts kk tpos) (.Call (.Name "zip" p) [a, b] [] pos) (pairs ds es') cs2 :=
  ⟨hb.dm.trans ha.dm, _, RZ.pi_zipA hg hm pa_w hs hpl, fun σ H Q S k => (a_cons ha (a_cons hb a_nil hs2) hs).k σ H _ S fun vs H1 S1 x1 r1 => by
    obtain ⟨v, u, rfl, r1, r2⟩ := rs2 r1
    obtain ⟨aa, xs, rfl, h1, ra⟩ := tupR r1
    obtain ⟨ab, ys, rfl, h2, rb⟩ := tupR r2
    exact ⟨aa, ab, xs, ys, rfl, .inr ⟨sqT_of h1, sqT_of h2, k _ H1 S1 x1 (walks_zipT h1 h2 ra rb)⟩⟩⟩
end
theorem EI.eq {X : Cx} {M : Addr → Prop} {e : DE} {cs cs1 : Cs} {tg a : Expr} {ds es : List D} (h : EI X M e cs tg a ds cs1) (q : ds = es) : EI X M e cs tg a es cs1 := q ▸ h
end Od

set_option Elab.async false
set_option linter.all false
set_option maxRecDepth 100000
set_option maxHeartbeats 4000000
namespace Od
open PySem L2 TL PySem.Spec
local macro_rules
  | `(tactic| walk_at "bd") => `(tactic| first | exact bd_add | exact bd_sub | exact bd_mulR (by decide) | exact bd_mulL (by decide) | exact bd_mod (by decide) | exact bd_div (by decide))
local macro_rules
  | `(tactic| walk_at "cd") => `(tactic| first | exact cd_lt | exact cd_le | exact cd_gt | exact cd_ge | exact cd_eqI | exact cd_eqS)
local macro_rules
  | `(tactic| walk_at "le") => `(tactic| repeat (first | exact LeD.nil | apply LeD.drop | apply LeD.same))
/-! ### signs, leaves, formulas drawn -/
def steps6 : List Int := [1, 3, 5, 7, 9, 11]
def codesF (f st : Int) (many : Nat) : List Nat := (List.range many).map fun (k : Nat) => 97 + ((f + st * (k : Int)) % 26).toNat
def signsF (b : Bag) (many : Nat) : List Nat × Bag :=
  (srt (codesF (draw b 26).1 (steps6.getD (draw (draw b 26).2 6).1.toNat 1) many), (draw (draw b 26).2 6).2)
theorem codes_alpha {f st : Int} {many : Nat} {c : Nat} (h : c ∈ codesF f st many) : c ∈ alpha := by
  obtain ⟨k, _, rfl⟩ := List.mem_map.mp h
  have h1 := Int.emod_nonneg (f + st * (k : Int)) (show (26 : Int) ≠ 0 by decide)
  have h2 := Int.emod_lt_of_pos (f + st * (k : Int)) (show (0 : Int) < 26 by decide)
  refine List.mem_map.mpr ⟨((f + st * (k : Int)) % 26).toNat, List.mem_range.mpr (by omega), by omega⟩
theorem signsF_alpha {b : Bag} {many : Nat} : ∀ c ∈ (signsF b many).1, c ∈ alpha := fun c h => codes_alpha ((srt_perm _).mem_iff.mp h)
theorem signsF_len {b : Bag} {many : Nat} : (signsF b many).1.length = many := by
  show (srt _).length = _
  rw [(srt_perm _).length_eq]
  simp [codesF]
theorem signsF_ok {b : Bag} (h : b.Ok) (many : Nat) : (signsF b many).2.Ok := draw_ok (draw_ok h _) _
theorem steps_le (i : Nat) : 0 ≤ steps6.getD i 1 ∧ steps6.getD i 1 ≤ 11 := by
  unfold steps6
  match i with
  | 0 => decide
  | 1 => decide
  | 2 => decide
  | 3 => decide
  | 4 => decide
  | 5 => decide
  | i + 6 => simp [List.getD]
theorem alpha_at {i : Nat} (h : i < 26) : alpha[i]? = some (97 + i) := by
  unfold alpha
  rw [List.getElem?_map, List.getElem?_range h]
  simp; omega
theorem abc_at (x : Int) (h1 : 0 ≤ x) (h2 : x < 26) : (tl (("abcdefghijklmnopqrstuvwxyz" : Str)))[x.toNat]? = some (97 + x.toNat) := by
  rw [abc]
  exact alpha_at (by omega)
structure SgI where
  ad : Addr
  b : Bag
  n : Nat
structure SgI.Pre (i : SgI) : Prop where
  ok : i.b.Ok
  le : i.n < 64
section
variable (P : Program) (w : World) (K : PySem.W.Frag) (mg : Str → Option Value) (base : Heap)
abbrev SignsD (k : Nat) : Prop := Dfn P w K mg base "_law_signs" k (fnSp K mg SgI.Pre (fun i => [.ref i.ad, .int i.n]) (fun i => [(i.ad, i.b.c)]) (fun i => .str ⟨(signsF i.b i.n).1.toArray⟩) (fun i => [(i.ad, (signsF i.b i.n).2.c)]))
variable {P w K mg base}
theorem scSigns : FnScope ["_law_bag", "_law_many", "_law_first", "_law_step", "_law_k"] ["_law_bag", "_law_many"] (defScope sSigns) := ⟨rfl, rfl, rfl, by decide +kernel, rfl, by decide +kernel, by decide +kernel⟩
theorem steps_get {b : Bag} : itemD (.lst [.int 1, .int 3, .int 5, .int 7, .int 9, .int 11]) (draw b 6).1.toNat = .int (steps6.getD (draw b 6).1.toNat 1) := by
  have := draw_lo (b := b) (s := 6) (by decide)
  have h6 : (draw b 6).1.toNat < 6 := by omega
  generalize (draw b 6).1.toNat = i at h6 ⊢
  match i, h6 with
  | 0, _ => rfl
  | 1, _ => rfl
  | 2, _ => rfl
  | 3, _ => rfl
  | 4, _ => rfl
  | 5, _ => rfl
theorem ok_signs {f : Addr} {fd : FuncData} (F : Fun K "_law_signs" "_law_signs" sSigns f fd) (hm : mg "_law_signs" = some (.ref f)) (hb : Binds K fd ["_law_bag", "_law_many"] []) (B : Blt mg) (D0 : DrawD P w K mg base 3) (D1 : OneD P w K mg base 4) : SignsD P w K mg base 5 := by
  refine dfn_of F hm scSigns hb (fun i => rfl) fun cdv A outer s H0 E i M Q hp hr kq => ?_
  obtain ⟨ad, b, n⟩ := i
  obtain ⟨ok, le⟩ := hp
  dsimp only at ok le kq
  refine at_unp2 2 3 (e_tup (a_cons (e_draw D0 (hr.mono (by decide)) (e_name 0 rfl) e_int .here ok (by decide)) (a_cons ((e_oneL D1 hr (e_name 0 rfl) (e_lst (a_cons e_int (a_cons e_int (a_cons e_int (a_cons e_int (a_cons e_int (a_cons e_int a_nil))))))) .here (draw_ok ok _) (by decide)).eq steps_get) a_nil))) ?_ scSigns.nd
  have hst : 0 ≤ steps6.getD (draw (draw b 26).2 6).1.toNat 1 ∧ steps6.getD (draw (draw b 26).2 6).1.toNat 1 ≤ 11 := steps_le _
  have hd : ∀ k : Nat, (tl (("abcdefghijklmnopqrstuvwxyz" : Str)))[(((draw b 26).1 + steps6.getD (draw (draw b 26).2 6).1.toNat 1 * (k : Int)) % 26).toNat]? = some (97 + (((draw b 26).1 + steps6.getD (draw (draw b 26).2 6).1.toNat 1 * (k : Int)) % 26).toNat) := fun k => abc_at _ (Int.emod_nonneg _ (by decide)) (Int.emod_lt_of_pos _ (by decide))
  have hi : ∀ k : Nat, ixN 26 (((draw b 26).1 + steps6.getD (draw (draw b 26).2 6).1.toNat 1 * (k : Int)) % 26) = some (((draw b 26).1 + steps6.getD (draw (draw b 26).2 6).1.toNat 1 * (k : Int)) % 26).toNat := fun k => ixN_int (Int.emod_nonneg _ (by decide)) (Int.emod_lt_of_pos _ (by decide))
  refine at_end (e_join (ts := (signsF b n).1.map sg) (join_len0 _ (by rw [signsF_len]; omega)) e_str (e_blt (kd_sortedS (ss := (codesF (draw b 26).1 (steps6.getD (draw (draw b 26).2 6).1.toNat 1) n).map sg) (by simp [codesF]; omega) (fun ys h1 h2 => sortS_sg h1 h2)) (a_cons (EE.eq (e_lcM [("_law_k", 4)] (List.range n) (fun (k : Nat) => D.int (k : Int)) (fun (k : Nat) => D.str (sg (97 + (((draw b 26).1 + steps6.getD (draw (draw b 26).2 6).1.toNat 1 * (k : Int)) % 26).toNat)))
      (EI.eq (ei_rng1 (e_name 1 rfl) B.range (by dsimp only; omega)) (by simp [ups, Function.comp_def])) (ctg_name 4 scSigns.nd (by decide) rfl) (fun _ _ => trivial) (by simp; omega)
      (fun k hk M' hM s H C cl fp => e_ix e_str (e_bin (e_bty kd_int (a_cons (e_bin (e_name 2 rfl) (e_bin (e_name 3 rfl) (e_name 4 rfl) (bd_mulL (by omega))) (by walk_at "bd")) a_nil) B.int) e_int (by walk_at "bd")) (xd_str (by decide +kernel) ((congrArg (fun m => ixN m _) (show (tl (("abcdefghijklmnopqrstuvwxyz" : Str))).length = 26 by decide +kernel)).trans (hi k)) (hd k))) (blkOk_by rfl) scSigns.nd) (by simp [codesF])) a_nil) B.sorted)) ?_ (.head _) kq
  rw [join_sg]
end
end Od

set_option Elab.async false
set_option linter.all false
set_option maxRecDepth 100000
set_option maxHeartbeats 4000000
/-! Pt4: the law's drawn trees, as plain data. -/
namespace Od
open PySem L2 TL PySem.Spec
def sel1 (mem : List Nat) (m : Int) (s : List Nat × Bag) (c : Nat) : List Nat × Bag :=
  if c ∈ mem then (s.1 ++ [c], s.2) else if (draw s.2 m).1 = 0 then (s.1 ++ [c], (draw s.2 m).2) else (s.1, (draw s.2 m).2)
/-- letters drawn: those of mem, and of the others one in m -/
def selF (mem : List Nat) (m : Int) (b : Bag) (cs : List Nat) : List Nat × Bag := cs.foldl (sel1 mem m) ([], b)
theorem selF_snoc (mem : List Nat) (m : Int) (b : Bag) (cs : List Nat) (c : Nat) : selF mem m b (cs ++ [c]) = sel1 mem m (selF mem m b cs) c := by
  unfold selF
  rw [List.foldl_append]; rfl
theorem selF_take {mem : List Nat} {m : Int} {b : Bag} {cs : List Nat} {i c : Nat} (h : cs[i]? = some c) : selF mem m b (cs.take (i + 1)) = sel1 mem m (selF mem m b (cs.take i)) c := by
  rw [List.take_add_one, h]
  exact selF_snoc ..
theorem sel1_ok {mem : List Nat} {m : Int} {s : List Nat × Bag} {c : Nat} (h : s.2.Ok) : (sel1 mem m s c).2.Ok := by
  unfold sel1
  split
  · exact h
  · split <;> exact draw_ok h m
theorem fold_ok {mem : List Nat} {m : Int} : ∀ (cs : List Nat) (s : List Nat × Bag), s.2.Ok → (cs.foldl (sel1 mem m) s).2.Ok
  | [], _, h => h
  | c :: cs, s, h => fold_ok cs _ (sel1_ok h)
theorem selF_ok {mem : List Nat} {m : Int} {b : Bag} (h : b.Ok) (cs : List Nat) : (selF mem m b cs).2.Ok := fold_ok cs _ h
theorem fold_sub {mem : List Nat} {m : Int} : ∀ (cs : List Nat) (s : List Nat × Bag), ∃ t, (cs.foldl (sel1 mem m) s).1 = s.1 ++ t ∧ t.Sublist cs ∧ ∀ c ∈ cs, c ∈ mem → c ∈ t
  | [], s => ⟨[], by simp, .slnil, by simp⟩
  | c :: cs, s => by
    obtain ⟨t, h1, h2, h3⟩ := fold_sub (mem := mem) (m := m) cs (sel1 mem m s c)
    have h1' : ((c :: cs).foldl (sel1 mem m) s).1 = (sel1 mem m s c).1 ++ t := h1
    by_cases hc : c ∈ mem
    · have e : (sel1 mem m s c).1 = s.1 ++ [c] := by unfold sel1; rw [if_pos hc]
      refine ⟨c :: t, by rw [h1', e]; simp, h2.cons_cons c, fun x hx hm => ?_⟩
      rcases List.mem_cons.mp hx with rfl | hx
      · exact List.mem_cons_self ..
      · exact List.mem_cons_of_mem _ (h3 x hx hm)
    · by_cases hd : (draw s.2 m).1 = 0
      · have e : (sel1 mem m s c).1 = s.1 ++ [c] := by unfold sel1; rw [if_neg hc, if_pos hd]
        refine ⟨c :: t, by rw [h1', e]; simp, h2.cons_cons c, fun x hx hm => ?_⟩
        rcases List.mem_cons.mp hx with rfl | hx
        · exact absurd hm hc
        · exact List.mem_cons_of_mem _ (h3 x hx hm)
      · have e : (sel1 mem m s c).1 = s.1 := by unfold sel1; rw [if_neg hc, if_neg hd]
        refine ⟨t, by rw [h1', e], h2.cons c, fun x hx hm => ?_⟩
        rcases List.mem_cons.mp hx with rfl | hx
        · exact absurd hm hc
        · exact h3 x hx hm
theorem selF_spec (mem : List Nat) (m : Int) (b : Bag) (cs : List Nat) : (selF mem m b cs).1.Sublist cs ∧ ∀ c ∈ cs, c ∈ mem → c ∈ (selF mem m b cs).1 := by
  obtain ⟨t, h1, h2, h3⟩ := fold_sub (mem := mem) (m := m) cs ([], b)
  have e : (selF mem m b cs).1 = t := by unfold selF; simpa using h1
  rw [e]
  exact ⟨h2, h3⟩
theorem sub_lets {l cs : List Nat} (h : l.Sublist cs) (hc : letsB cs = true) : letsB l = true := by
  obtain ⟨h1, h2⟩ := lets_iff.mp hc
  exact lets_iff.mpr ⟨fun c hc => h1 c (h.subset hc), h2.sublist h⟩
/-- the letters of the signs kept so far -/
def keepS (mem : List Nat) (m : Int) (b : Bag) (cs : List Nat) (i : Nat) : Bool :=
  match cs[i]? with
  | none => false
  | some c => decide (c ∈ mem) || decide ((draw (selF mem m b (cs.take i)).2 m).1 = 0)
theorem outs_sel (mem : List Nat) (m : Int) (b : Bag) (cs : List Nat) : ∀ n, n ≤ cs.length → outs (keepS mem m b cs) (fun i => D.str (sg (cs.getD i 0))) n = ((selF mem m b (cs.take n)).1.map sg).map D.str
  | 0, _ => rfl
  | n + 1, hn => by
    have hc : cs[n]? = some (cs.getD n 0) := by simp [List.getD, List.getElem?_eq_getElem (show n < cs.length by omega)]
    have ih := outs_sel mem m b cs n (by omega)
    rw [selF_take hc]
    have hk : keepS mem m b cs n = (decide (cs.getD n 0 ∈ mem) || decide ((draw (selF mem m b (cs.take n)).2 m).1 = 0)) := by unfold keepS; rw [hc]
    unfold sel1
    by_cases h1 : cs.getD n 0 ∈ mem
    · rw [if_pos h1, outs_yes (by rw [hk, decide_eq_true h1]; rfl), ih]; simp
    · rw [if_neg h1]
      by_cases h2 : (draw (selF mem m b (cs.take n)).2 m).1 = 0
      · rw [if_pos h2, outs_yes (by rw [hk, decide_eq_true h2]; simp), ih]; simp
      · rw [if_neg h2, outs_no (by rw [hk, decide_eq_false h1, decide_eq_false h2]; rfl), ih]
/-! ### rows -/
structure Rst where
  rows : List Row
  path : List Nat
  bag : Bag
def row1 (cs : List Nat) (s : Rst) (at_ : Nat) : Rst :=
  let d := draw s.bag (s.path.length : Int)
  let path := s.path.take (1 + d.1.toNat)
  let mother := path.getD (path.length - 1) 0
  let l := selF (rowAt s.rows mother).1 2 d.2 cs
  ⟨s.rows ++ [(l.1, some (mother : Int))], path ++ [at_], l.2⟩
def rows0 (b : Bag) (cs : List Nat) : Rst := ⟨[((selF [] 3 b cs).1, none)], [0], (selF [] 3 b cs).2⟩
/-- the rows so far, n of them behind the root -/
def rowsN (b : Bag) (cs : List Nat) (most : Int) (n : Nat) : Rst := (List.range n).foldl (fun s i => row1 cs s (1 + i)) ⟨(rows0 b cs).rows, (rows0 b cs).path, (draw (rows0 b cs).bag most).2⟩
def rowsF (b : Bag) (cs : List Nat) (most : Int) : Rst := rowsN b cs most (draw (rows0 b cs).bag most).1.toNat
theorem rowsN_succ (b : Bag) (cs : List Nat) (most : Int) (n : Nat) : rowsN b cs most (n + 1) = row1 cs (rowsN b cs most n) (1 + n) := by
  unfold rowsN
  rw [List.range_succ, List.foldl_append]; rfl
theorem row1_ok {cs : List Nat} {s : Rst} (h : s.bag.Ok) (at_ : Nat) : (row1 cs s at_).bag.Ok := selF_ok (draw_ok h _) cs
theorem rowsN_ok {b : Bag} (h : b.Ok) (cs : List Nat) (most : Int) : ∀ n, (rowsN b cs most n).bag.Ok
  | 0 => draw_ok (selF_ok h cs) most
  | n + 1 => by rw [rowsN_succ]; exact row1_ok (rowsN_ok h cs most n) _
theorem rowsF_ok {b : Bag} (h : b.Ok) (cs : List Nat) (most : Int) : (rowsF b cs most).bag.Ok := rowsN_ok h cs most _
theorem pathR_lt : ∀ (f : Fo) (i x : Nat), x ∈ pathR f i → i ≤ x ∧ x < i + f.size
  | .nil, _, _, h => by cases h
  | .cons a ks rs, i, x, h => by
    have h' : x ∈ (if rs.size = 0 then i :: pathR ks (i + 1) else pathR rs (i + 1 + ks.size)) := h
    simp only [Fo.size]
    split at h'
    · rcases List.mem_cons.mp h' with rfl | h'
      · omega
      · have := pathR_lt ks (i + 1) x h'
        omega
    · have := pathR_lt rs (i + 1 + ks.size) x h'
      omega
/-- what holds of the rows so far -/
structure Grown (cs : List Nat) (s : Rst) (n : Nat) : Prop where
  tree : ∃ f, one? f ∧ s.rows = f.flat 0 none ∧ s.path = pathR f 0
  ok : okRows [] s.rows = true
  sub : ∀ r ∈ s.rows, ∀ c ∈ r.1, c ∈ cs
  len : s.rows.length = n
  pos : 0 < s.path.length
  plen : s.path.length ≤ n
theorem grown0 {b : Bag} {cs : List Nat} (hc : letsB cs = true) (most : Int) : Grown cs (rowsN b cs most 0) 1 := by
  have h1 := (selF_spec [] 3 b cs).1
  refine ⟨⟨.cons (selF [] 3 b cs).1 .nil .nil, trivial, rfl, rfl⟩, ?_, fun r hr c hcr => ?_, rfl, Nat.zero_lt_one, Nat.le_refl 1⟩
  · show (okAt [] ((selF [] 3 b cs).1, none) && true) = true
    simp [okAt, sub_lets h1 hc]
  · have hr' : r ∈ [((selF [] 3 b cs).1, (none : Option Int))] := hr
    rcases List.mem_singleton.mp hr' with rfl
    exact h1.subset hcr
theorem grown1 {cs : List Nat} (hc : letsB cs = true) {s : Rst} {n : Nat} (hs : s.bag.Ok) (h : Grown cs s n) : Grown cs (row1 cs s n) (n + 1) := by
  obtain ⟨⟨f, h1, h2, h3⟩, ok, sub, len, pos, plen⟩ := h
  obtain ⟨d0, d1⟩ := draw_lo (b := s.bag) (s := (s.path.length : Int)) (by omega)
  generalize hd : draw s.bag (s.path.length : Int) = d at d0 d1
  have hk : d.1.toNat < s.path.length := by omega
  have htl : (s.path.take (1 + d.1.toNat)).length = 1 + d.1.toNat := by rw [List.length_take]; omega
  have hmo : (s.path.take (1 + d.1.toNat)).getD ((s.path.take (1 + d.1.toNat)).length - 1) 0 = s.path.getD d.1.toNat 0 := by
    rw [htl, show 1 + d.1.toNat - 1 = d.1.toNat by omega]
    simp only [List.getD]
    rw [List.getElem?_take, if_pos (by omega)]
  generalize hm : s.path.getD d.1.toNat 0 = mo at hmo
  have hfs : f.size = n := by rw [← len, h2, flat_len]
  have hmem : mo ∈ s.path := by
    rw [← hm]
    simp only [List.getD, List.getElem?_eq_getElem hk, Option.getD_some]
    exact List.getElem_mem hk
  have hmlt : mo < n := by
    rw [h3] at hmem
    have := pathR_lt f 0 mo hmem
    omega
  generalize hl : selF (rowAt s.rows mo).1 2 d.2 cs = l
  have hsp := selF_spec (rowAt s.rows mo).1 2 d.2 cs
  rw [hl] at hsp
  have er : row1 cs s n = ⟨s.rows ++ [(l.1, some (mo : Int))], s.path.take (1 + d.1.toNat) ++ [n], l.2⟩ := by
    unfold row1
    dsimp only
    rw [hd, hmo, hl]
  rw [er]
  obtain ⟨a1, a2⟩ := addR_spec l.1 f (1 + d.1.toNat) 0 none (by rw [← h3]; omega)
  rw [if_neg (by omega), show 1 + d.1.toNat - 1 = d.1.toNat by omega, ← h3, hm, ← h2] at a1
  rw [← h3, Nat.zero_add, hfs] at a2
  refine ⟨⟨addR l.1 f (1 + d.1.toNat), by rw [Nat.add_comm]; exact addR_one l.1 h1 _, a1.symm, a2.symm⟩, ?_, fun r hr c hcr => ?_, by simp [len], by simp, by simp; omega⟩
  · rw [okRows_app, ok]
    show (true && (okAt ([] ++ s.rows) (l.1, some (mo : Int)) && true)) = true
    rw [List.nil_append, okAt_mk (sub_lets hsp.1 hc) (by omega) fun c hcm => hsp.2 c (by
      have hr : s.rows[mo]? = some (rowAt s.rows mo) := by
        unfold rowAt
        rw [List.getElem?_eq_getElem (by omega)]; rfl
      exact sub _ (List.mem_of_getElem? hr) c hcm) hcm]
    rfl
  · rcases List.mem_append.mp hr with hr | hr
    · exact sub r hr c hcr
    · rcases List.mem_singleton.mp hr with rfl
      exact hsp.1.subset hcr
theorem grownN {b : Bag} (hb : b.Ok) {cs : List Nat} (hc : letsB cs = true) (most : Int) : ∀ n, Grown cs (rowsN b cs most n) (n + 1)
  | 0 => grown0 hc most
  | n + 1 => by
    rw [rowsN_succ, show 1 + n = n + 1 by omega]
    exact grown1 hc (rowsN_ok hb cs most n) (grownN hb hc most n)
/-- the law's rows are a tree's -/
theorem rowsF_tree {b : Bag} (hb : b.Ok) {cs : List Nat} (hc : letsB cs = true) {most : Nat} (hm : 0 < most) : ∃ f, one? f ∧ okF [] f ∧ (rowsF b cs most).rows = f.flat 0 none ∧ okRows [] (rowsF b cs most).rows = true ∧ f.size ≤ most ∧ 0 < f.size ∧ fo (rowsF b cs most).rows [0] = f := by
  have G := grownN hb hc (most : Int) (draw (rows0 b cs).bag most).1.toNat
  obtain ⟨d0, d1⟩ := draw_lo (b := (rows0 b cs).bag) (s := (most : Int)) (by omega)
  obtain ⟨f, h1, h2, _⟩ := G.tree
  have h2' : (rowsF b cs most).rows = f.flat 0 none := h2
  have ok' : okRows [] (rowsF b cs most).rows = true := G.ok
  have hl : f.size = (draw (rows0 b cs).bag most).1.toNat + 1 := by rw [← flat_len f 0 none, ← h2, G.len]
  have e : fo (rowsF b cs most).rows [0] = f := by
    rw [h2'] at ok' ⊢
    exact fo_flat h1 (ok_fwd ok')
  have hok : okF [] f := by
    have := fo_okF ok' [0]
    rw [e] at this
    exact this
  exact ⟨f, h1, hok, h2', ok', by omega, by omega, e⟩
end Od

set_option Elab.async false
set_option linter.all false
set_option maxRecDepth 100000
set_option maxHeartbeats 4000000
/-! Fb: is_letter (laws without formulas, too). -/
namespace Od
open PySem L2 TL PySem.Spec
abbrev sIsLet : Stmt := top 12
local macro_rules
  | `(tactic| walk_at "bd") => `(tactic| first | exact bd_add | exact bd_sub | exact bd_mulR (by decide) | exact bd_mulL (by decide) | exact bd_mod (by decide) | exact bd_div (by decide))
local macro_rules
  | `(tactic| walk_at "cd") => `(tactic| first | exact cd_lt | exact cd_le | exact cd_gt | exact cd_ge | exact cd_eqI | exact cd_eqS)
def Al (mg : Str → Option Value) : Prop := ∃ u, mg "ALPHABET" = some u ∧ RelV (.str "abcdefghijklmnopqrstuvwxyz") u
def isLet (s : Str) : Bool := match tl s with
  | [c] => decide (c ∈ alpha)
  | _ => false
/-- values whose kind isinstance tells; texts that are not too long -/
def ValD : D → Prop
  | .str s => s.length ≤ 1000
  | .non => True
  | .bl _ => True
  | .int _ => True
  | .lst _ => True
  | .tup _ => True
  | _ => False
def isLetV : D → Bool
  | .str s => isLet s
  | _ => false
theorem isLet_one (c : Nat) : isLet (sg c) = decide (c ∈ alpha) := by simp [isLet]
section
variable (P : Program) (w : World) (K : PySem.W.Frag) (mg : Str → Option Value) (base : Heap)
abbrev IsLetD (k : Nat) : Prop := Dfn P w K mg base "is_letter" k (puSp K mg (fun s : Str => s.length ≤ 100000) (fun s => [.str s]) (fun s => .bl (isLet s)))
abbrev IsLetVD (k : Nat) : Prop := Dfn P w K mg base "is_letter" k (puSp K mg ValD (fun d => [d]) (fun d => .bl (isLetV d)))
variable {P w K mg base}
theorem scIsLet : FnScope ["value"] ["value"] (defScope sIsLet) := ⟨rfl, rfl, rfl, by decide +kernel, rfl, by decide +kernel, by decide +kernel⟩
theorem one_sign {s : Str} (h : decide ((s.length : Int) = 1) = true) : ∃ c, s = sg c := by
  have h1 : (tl s).length = 1 := by
    have := of_decide_eq_true h
    rw [← len_tl]; omega
  match q : tl s, h1 with
  | [c], _ => exact ⟨c, ext_tl q⟩
theorem isLet_no {s : Str} (h : decide ((s.length : Int) = 1) = false) : isLet s = false := by
  unfold isLet
  split
  · rename_i c q
    have : s.length = 1 := by rw [len_tl, q]; rfl
    simp [this] at h
  · rfl
theorem ok_isLet' {f : Addr} {fd : FuncData} (F : Fun K "is_letter" "is_letter" sIsLet f fd) (hm : mg "is_letter" = some (.ref f)) (hb : Binds K fd ["value"] []) (B : Blt mg) (al : Al mg) : IsLetD P w K mg base 2 := by
  refine dfn_of F hm scIsLet hb (fun i => rfl) fun cdv A outer s H0 E t M Q hp hr kq => ?_
  obtain ⟨u, h1, h2⟩ := al
  refine at_end (e_and (q0 := isLet t) (e_blt (kd_isi (t := "str") (n := "str") (b := true) rfl (by decide +kernel)) (a_cons (e_name 0 rfl) (a_cons (e_gty (t := "str") B.str) a_nil)) B.isinstance) fun _ => EE.eq (e_and (q0 := isLet t) (e_cmp (e_blt (kd_lenS (Nat.le_trans hp (by decide))) (a_cons (e_name 0 rfl) a_nil) B.len) e_int (by walk_at "cd")) fun h => e_one ?_) ?_) rfl (.head _) kq
  · obtain ⟨c, rfl⟩ := one_sign h
    exact (e_cmp (e_name 0 rfl) (e_gstr h1 h2) cd_inC).eq (by rw [show (Str.ofString "abcdefghijklmnopqrstuvwxyz").cps.toList = alpha from abc]; rfl)
  · cases h : decide ((t.length : Int) = 1) with
    | true => simp
    | false => rw [isLet_no h]; simp
theorem ok_isLetV' {f : Addr} {fd : FuncData} (F : Fun K "is_letter" "is_letter" sIsLet f fd) (hm : mg "is_letter" = some (.ref f)) (hb : Binds K fd ["value"] []) (B : Blt mg) (al : Al mg) : IsLetVD P w K mg base 2 := by
  refine dfn_of F hm scIsLet hb (fun i => rfl) fun cdv A outer s H0 E d M Q hp hr kq => ?_
  obtain ⟨u, h1, h2⟩ := al
  cases d with
  | str t =>
    refine at_end (e_and (q0 := isLet t) (e_blt (kd_isi (t := "str") (n := "str") (b := true) rfl (by decide +kernel)) (a_cons (e_name 0 rfl) (a_cons (e_gty (t := "str") B.str) a_nil)) B.isinstance) fun _ => EE.eq (e_and (q0 := isLet t) (e_cmp (e_blt (kd_lenS (Nat.le_trans hp (by decide))) (a_cons (e_name 0 rfl) a_nil) B.len) e_int (by walk_at "cd")) fun h => e_one ?_) ?_) rfl (.head _) kq
    · obtain ⟨c, rfl⟩ := one_sign h
      exact (e_cmp (e_name 0 rfl) (e_gstr h1 h2) cd_inC).eq (by rw [show (Str.ofString "abcdefghijklmnopqrstuvwxyz").cps.toList = alpha from abc]; rfl)
    · cases h : decide ((t.length : Int) = 1) with
      | true => simp
      | false => rw [isLet_no h]; simp
  | non => exact at_end (e_and (p0 := false) (q0 := false) (e_blt (kd_isi (t := "NoneType") (n := "str") (b := false) rfl (by decide +kernel)) (a_cons (e_name 0 rfl) (a_cons (e_gty (t := "str") B.str) a_nil)) B.isinstance) fun h => by cases h) rfl (.head _) kq
  | bl b => exact at_end (e_and (p0 := false) (q0 := false) (e_blt (kd_isi (t := "bool") (n := "str") (b := false) rfl (by decide +kernel)) (a_cons (e_name 0 rfl) (a_cons (e_gty (t := "str") B.str) a_nil)) B.isinstance) fun h => by cases h) rfl (.head _) kq
  | int i => exact at_end (e_and (p0 := false) (q0 := false) (e_blt (kd_isi (t := "int") (n := "str") (b := false) rfl (by decide +kernel)) (a_cons (e_name 0 rfl) (a_cons (e_gty (t := "str") B.str) a_nil)) B.isinstance) fun h => by cases h) rfl (.head _) kq
  | lst ds => exact at_end (e_and (p0 := false) (q0 := false) (e_blt (kd_isi (t := "list") (n := "str") (b := false) rfl (by decide +kernel)) (a_cons (e_name 0 rfl) (a_cons (e_gty (t := "str") B.str) a_nil)) B.isinstance) fun h => by cases h) rfl (.head _) kq
  | tup ds => exact at_end (e_and (p0 := false) (q0 := false) (e_blt (kd_isi (t := "tuple") (n := "str") (b := false) rfl (by decide +kernel)) (a_cons (e_name 0 rfl) (a_cons (e_gty (t := "str") B.str) a_nil)) B.isinstance) fun h => by cases h) rfl (.head _) kq
  | _ => exact hp.elim
end
end Od

set_option Elab.async false
set_option linter.all false
set_option maxRecDepth 100000
set_option maxHeartbeats 4000000
/-! Fbs: is_letters. -/
namespace Od
open PySem L2 TL PySem.Spec
abbrev sIsLets : Stmt := top 13
local macro_rules
  | `(tactic| walk_at "bd") => `(tactic| first | exact bd_add | exact bd_sub | exact bd_mulR (by decide) | exact bd_mulL (by decide) | exact bd_mod (by decide) | exact bd_div (by decide))
local macro_rules
  | `(tactic| walk_at "cd") => `(tactic| first | exact cd_lt | exact cd_le | exact cd_gt | exact cd_ge | exact cd_eqI | exact cd_eqS)
def isLetsV : D → Bool
  | .str s => letsB (tl s)
  | _ => false
theorem signs_tl (s : Str) : signs s = (tl s).map sg := rfl
theorem lt_sg (a b : Nat) : decide ((sg a).cps.toList < (sg b).cps.toList) = decide (a < b) := by
  show decide ([a] < [b]) = _
  have : ([a] < [b]) ↔ a < b := by simp [List.cons_lt_cons_iff]
  simp [this]
section
variable (P : Program) (w : World) (K : PySem.W.Frag) (mg : Str → Option Value) (base : Heap)
abbrev IsLetsD (k : Nat) : Prop := Dfn P w K mg base "is_letters" k (puSp K mg ValD (fun d => [d]) (fun d => .bl (isLetsV d)))
variable {P w K mg base}
theorem scIsLets : FnScope ["value", "sign", "at"] ["value"] (defScope sIsLets) := ⟨rfl, rfl, rfl, by decide +kernel, rfl, by decide +kernel, by decide +kernel⟩
theorem body_isLets (L : IsLetVD P w K mg base 2) (B : Blt mg) {f : Addr} : Body P w K mg base "is_letters" sIsLets f ["value", "sign", "at"] 1 3 ValD (fun d => [d]) (fun _ => []) (fun d => .bl (isLetsV d)) (fun _ => []) := by
  intro cdv A outer s H0 E d M Q hp hr kq
  cases d with
  | str t =>
    have hp' : t.length ≤ 1000 := hp
    have hz : (tl t).length ≤ 1000 := by rw [← len_tl]; exact hp'
    refine at_if (b0 := !((tl t).all fun c => decide (c ∈ alpha))) (ET.eq (t_ew (t_or (t_not (k0 := true) (t_val (e_blt (kd_isi (t := "str") (n := "str") (b := true) rfl (by decide +kernel)) (a_cons (e_name 0 rfl) (a_cons (e_gty (t := "str") B.str) a_nil)) B.isinstance))) fun _ => t_or1 (t_not (t_val (e_blt (kd_all (bs := (tl t).map fun c => decide (c ∈ alpha))) (a_cons (EE.eq (e_lcM [("sign", 1)] (tl t) (fun c => D.str (sg c)) (fun c => D.bl (decide (c ∈ alpha)))
        (EI.eq (ei_str (e_name 0 rfl)) (by rw [signs_tl]; simp)) (ctg_name 1 scIsLets.nd (by decide) rfl) (fun _ _ => trivial) (Nat.le_trans hz (by decide))
        (fun c hc M' hM s2 H2 C2 cl2 fp2 => EE.eq (e_call L (hr.mono (by decide)) (a_cons (e_name 1 rfl) a_nil) (.str (sg c)) (by show 1 ≤ 1000; decide) rfl) (by rw [← isLet_one]; rfl)) (blkOk_by rfl) scIsLets.nd) (by simp)) a_nil) B.all))))) (by simp [List.all_map, Function.comp_def])) (fun h => ?_) fun h => at_nil ?_
    · refine at_end e_bl ?_ (.head _) kq
      show D.bl false = .bl (letsB (tl t))
      unfold letsB
      have : ((tl t).all fun c => decide (c ∈ alpha)) = false := by simpa using h
      rw [this]; rfl
    · have h0 : ((tl t).all fun c => decide (c ∈ alpha)) = true := by simpa using h
      refine at_end (e_blt (kd_all (bs := (List.range ((tl t).length - 1)).map fun i => decide ((tl t).getD i 0 < (tl t).getD (i + 1) 0))) (a_cons (EE.eq (e_lcM [("at", 2)] (List.range ((tl t).length - 1)) (fun (i : Nat) => D.int (i : Int)) (fun i => D.bl (decide ((tl t).getD i 0 < (tl t).getD (i + 1) 0)))
        (EI.eq (ei_rng1 (e_bin (e_blt (kd_lenS (Nat.le_trans hp' (by decide))) (a_cons (e_name 0 rfl) a_nil) B.len) e_int bd_sub) B.range (by have hcz : t.cps.size ≤ 1000 := hp'; have hcz2 : (t.length : Int) = (t.cps.size : Int) := rfl; omega)) (by
          rw [len_tl]
          have : ((((tl t).length : Nat) : Int) - 1).toNat = (tl t).length - 1 := by omega
          simp [ups, Function.comp_def, this])) (ctg_name 2 scIsLets.nd (by decide) rfl) (fun _ _ => trivial) (by simp only [List.length_range]; omega)
        (fun i hi M' hM s2 H2 C2 cl2 fp2 => ?_) (blkOk_by rfl) scIsLets.nd) (by simp)) a_nil) B.all) ?_ (.head _) kq
      · have hi' : i + 1 < (tl t).length := by have := List.mem_range.mp hi; omega
        have hle : t.length ≤ sizeLine := Nat.le_trans hp' (by decide)
        have g0 : (tl t)[i]? = some ((tl t).getD i 0) := by simp [List.getD, List.getElem?_eq_getElem (show i < (tl t).length by omega)]
        have g1 : (tl t)[i + 1]? = some ((tl t).getD (i + 1) 0) := by simp [List.getD, List.getElem?_eq_getElem hi']
        exact EE.eq (e_cmp (e_ix (e_name 0 rfl) (e_name 2 rfl) (xd_str hle (ixN_nat (by show i < (tl t).length; omega)) g0)) (e_ix (e_name 0 rfl) (e_bin (e_name 2 rfl) e_int bd_add) (xd_str hle (ixN_nat (n := (tl t).length) (j := i + 1) hi') g1)) cd_ltS) (congrArg D.bl (lt_sg _ _))
      · show D.bl _ = .bl (letsB (tl t))
        unfold letsB ascB
        rw [h0]
        simp [List.all_map, Function.comp_def]
  | non => exact at_if (b0 := true) (cs1 := []) (ET.eq (t_ew (t_or (q0 := true) (t_not (k0 := false) (t_val (e_blt (kd_isi (t := "NoneType") (n := "str") (b := false) rfl (by decide +kernel)) (a_cons (e_name 0 rfl) (a_cons (e_gty (t := "str") B.str) a_nil)) B.isinstance))) fun h => by cases h)) rfl) (fun _ => at_end e_bl rfl (.head _) kq) fun h => by cases h
  | bl b => exact at_if (b0 := true) (cs1 := []) (ET.eq (t_ew (t_or (q0 := true) (t_not (k0 := false) (t_val (e_blt (kd_isi (t := "bool") (n := "str") (b := false) rfl (by decide +kernel)) (a_cons (e_name 0 rfl) (a_cons (e_gty (t := "str") B.str) a_nil)) B.isinstance))) fun h => by cases h)) rfl) (fun _ => at_end e_bl rfl (.head _) kq) fun h => by cases h
  | int i => exact at_if (b0 := true) (cs1 := []) (ET.eq (t_ew (t_or (q0 := true) (t_not (k0 := false) (t_val (e_blt (kd_isi (t := "int") (n := "str") (b := false) rfl (by decide +kernel)) (a_cons (e_name 0 rfl) (a_cons (e_gty (t := "str") B.str) a_nil)) B.isinstance))) fun h => by cases h)) rfl) (fun _ => at_end e_bl rfl (.head _) kq) fun h => by cases h
  | lst ds => exact at_if (b0 := true) (cs1 := []) (ET.eq (t_ew (t_or (q0 := true) (t_not (k0 := false) (t_val (e_blt (kd_isi (t := "list") (n := "str") (b := false) rfl (by decide +kernel)) (a_cons (e_name 0 rfl) (a_cons (e_gty (t := "str") B.str) a_nil)) B.isinstance))) fun h => by cases h)) rfl) (fun _ => at_end e_bl rfl (.head _) kq) fun h => by cases h
  | tup ds => exact at_if (b0 := true) (cs1 := []) (ET.eq (t_ew (t_or (q0 := true) (t_not (k0 := false) (t_val (e_blt (kd_isi (t := "tuple") (n := "str") (b := false) rfl (by decide +kernel)) (a_cons (e_name 0 rfl) (a_cons (e_gty (t := "str") B.str) a_nil)) B.isinstance))) fun h => by cases h)) rfl) (fun _ => at_end e_bl rfl (.head _) kq) fun h => by cases h
  | _ => exact hp.elim
theorem ok_isLets {f : Addr} {fd : FuncData} (F : Fun K "is_letters" "is_letters" sIsLets f fd) (hm : mg "is_letters" = some (.ref f)) (hb : Binds K fd ["value"] []) (L : IsLetVD P w K mg base 2) (B : Blt mg) : IsLetsD P w K mg base 4 := dfn_of F hm scIsLets hb (fun i => rfl) (body_isLets L B)
end
end Od

set_option Elab.async false
set_option linter.all false
set_option maxRecDepth 100000
set_option maxHeartbeats 4000000
/-! Ti: the text determines the formula; formulas' tuples as plain data. -/
namespace Od
open PySem L2 TL PySem.Spec
theorem tl_cst (b : Bool) : tl (Fm.cst b).t = [if b then 49 else 48] := by cases b <;> decide +kernel
theorem tl_le (c : Nat) : tl (Fm.le c).t = [c] := rfl
/-- an operator's sign tells it -/
theorem os_inj {o o' : Op} {r r' : List Nat} (h : tl o.s ++ r = tl o'.s ++ r') : o = o' ∧ r = r' := by
  rw [tl_os, tl_os] at h
  cases o <;> cases o' <;> simp [opt] at h <;> first | exact ⟨rfl, h⟩ | (exact absurd h.1 (by decide)) | omega
/-- no formula's text begins another's -/
theorem t_pre : ∀ (f g : Fm), f.ok → g.ok → ∀ r r' : List Nat, tl f.t ++ r = tl g.t ++ r' → f = g ∧ r = r' := by
  intro f
  induction f with
  | cst b =>
    intro g _ hg r r' h
    rw [tl_cst] at h
    cases g with
    | cst b' =>
      rw [tl_cst] at h
      cases b <;> cases b' <;> simp at h
      · exact ⟨rfl, h⟩
      · exact ⟨rfl, h⟩
    | le c =>
      rw [tl_le] at h
      have := let_ge hg
      simp at h
      have h1 := h.1
      split at h1 <;> omega
    | bin o a b' =>
      by_cases hn : o = .im ∧ b' = .cst false
      · obtain ⟨rfl, rfl⟩ := hn
        rw [tl_neg] at h
        simp at h
        have h1 := h.1
        split at h1 <;> omega
      · rw [tl_bin hn] at h
        simp at h
        have h1 := h.1
        split at h1 <;> omega
  | le c =>
    intro g hf hg r r' h
    rw [tl_le] at h
    have hc := let_ge hf
    cases g with
    | cst b' =>
      rw [tl_cst] at h
      simp at h
      have h1 := h.1
      split at h1 <;> omega
    | le c' =>
      rw [tl_le] at h
      simp at h
      obtain ⟨rfl, h⟩ := h
      exact ⟨rfl, h⟩
    | bin o a b' =>
      by_cases hn : o = .im ∧ b' = .cst false
      · obtain ⟨rfl, rfl⟩ := hn
        rw [tl_neg] at h
        simp at h
        omega
      · rw [tl_bin hn] at h
        simp at h
        omega
  | bin o a b iha ihb =>
    intro g hf hg r r' h
    by_cases hn : o = .im ∧ b = .cst false
    · obtain ⟨rfl, rfl⟩ := hn
      rw [tl_neg] at h
      cases g with
      | cst b' =>
        rw [tl_cst] at h
        simp at h
        have h1 := h.1
        split at h1 <;> omega
      | le c' =>
        rw [tl_le] at h
        have := let_ge hg
        simp at h
        omega
      | bin o' a' b' =>
        by_cases hn' : o' = .im ∧ b' = .cst false
        · obtain ⟨rfl, rfl⟩ := hn'
          rw [tl_neg] at h
          simp only [List.cons_append, List.cons.injEq, true_and] at h
          obtain ⟨rfl, hr⟩ := iha a' hf.1 hg.1 r r' h
          exact ⟨rfl, hr⟩
        · rw [tl_bin hn'] at h
          simp at h
    · rw [tl_bin hn] at h
      cases g with
      | cst b' =>
        rw [tl_cst] at h
        simp at h
        have h1 := h.1
        split at h1 <;> omega
      | le c' =>
        rw [tl_le] at h
        have := let_ge hg
        simp at h
        omega
      | bin o' a' b' =>
        by_cases hn' : o' = .im ∧ b' = .cst false
        · obtain ⟨rfl, rfl⟩ := hn'
          rw [tl_neg] at h
          simp at h
        · rw [tl_bin hn'] at h
          unfold inText at h
          simp only [List.cons_append, List.cons.injEq, true_and, List.append_assoc] at h
          obtain ⟨rfl, h1⟩ := iha a' hf.1 hg.1 _ _ h
          obtain ⟨rfl, h2⟩ := os_inj h1
          obtain ⟨rfl, h3⟩ := ihb b' hf.2 hg.2 _ _ h2
          simp at h3
          exact ⟨rfl, h3⟩
theorem t_inj {f g : Fm} (hf : f.ok) (hg : g.ok) : f.t = g.t ↔ f = g := ⟨fun h => (t_pre f g hf hg [] [] (by rw [h])).1, fun h => by rw [h]⟩
/-- the law's tuple as plain data -/
def pyF : Fm → PyData
  | .cst b => .tuple [.str (cw b)]
  | .le c => .tuple [.str "letter", .str (sg c)]
  | .bin o a b => .tuple [.str o.w, pyF a, pyF b]
theorem toPy_d : ∀ f : Fm, toPy f.d = some (pyF f)
  | .cst b => rfl
  | .le c => rfl
  | .bin o a b => by
    show toPy (.tup [.str o.w, a.d, b.d]) = _
    simp only [toPy, toPys, toPy_d a, toPy_d b, Option.bind_some, Option.map_some]
    rfl
theorem cw_inj {b b' : Bool} : cw b = cw b' ↔ b = b' := by cases b <;> cases b' <;> simp <;> decide +kernel
theorem ow_inj {o o' : Op} : o.w = o'.w ↔ o = o' := by cases o <;> cases o' <;> simp <;> decide +kernel
theorem eqv_F : ∀ f g : Fm, PyData.eqv (pyF f) (pyF g) = decide (f = g)
  | .cst b, .cst b' => by rw [Bool.eq_iff_iff]; simp [pyF, PyData.eqv, PyData.eqvAll, cw_inj]
  | .cst b, .le c => by simp [pyF, PyData.eqv, PyData.eqvAll]
  | .cst b, .bin o x y => by simp [pyF, PyData.eqv, PyData.eqvAll]
  | .le c, .cst b => by simp [pyF, PyData.eqv, PyData.eqvAll]
  | .le c, .le c' => by
    have : (sg c = sg c') ↔ c = c' := ⟨fun h => by simpa using congrArg tl h, fun h => by rw [h]⟩
    rw [Bool.eq_iff_iff]; simp [pyF, PyData.eqv, PyData.eqvAll, this]
  | .le c, .bin o x y => by
    have h : (("letter" : Str) == o.w) = false := by cases o <;> decide +kernel
    rw [decide_eq_false (show ¬ Fm.le c = .bin o x y from fun z => by cases z)]
    show PyData.eqvAll [.str "letter", .str (sg c)] [.str o.w, pyF x, pyF y] = false
    rw [PyData.eqvAll, PyData.eqv, h, Bool.false_and]
  | .bin o a b, .cst b' => by simp [pyF, PyData.eqv, PyData.eqvAll]
  | .bin o a b, .le c => by
    have h : (o.w == ("letter" : Str)) = false := by cases o <;> decide +kernel
    rw [decide_eq_false (show ¬ Fm.bin o a b = .le c from fun z => by cases z)]
    show PyData.eqvAll [.str o.w, pyF a, pyF b] [.str "letter", .str (sg c)] = false
    rw [PyData.eqvAll, PyData.eqv, h, Bool.false_and]
  | .bin o a b, .bin o' a' b' => by
    have h1 := eqv_F a a'
    have h2 := eqv_F b b'
    simp only [pyF, PyData.eqv, PyData.eqvAll, h1, h2, Bool.and_true]
    rw [Bool.eq_iff_iff]
    simp [ow_inj]
termination_by f _ => sizeOf f
theorem depth_F : ∀ f : Fm, PyData.depth (pyF f) = f.nest
  | .cst b => rfl
  | .le c => rfl
  | .bin o a b => by
    have h1 := depth_F a
    have h2 := depth_F b
    simp only [pyF, PyData.depth, PyData.depthAll, h1, h2, Fm.nest]
    omega
theorem lay_F : ∀ f : Fm, f.ok → PyData.canLay0 (pyF f) = true
  | .cst b, _ => by cases b <;> decide +kernel
  | .le c, h => by
    have hc : c < 1114112 := by
      obtain ⟨i, hi, rfl⟩ := List.mem_map.mp (show c ∈ alpha from h)
      have := List.mem_range.mp hi
      omega
    have h1 : PyData.strOk ("letter" : Str) = true := by decide +kernel
    have h2 : PyData.strOk (sg c) = true := by simpa [PyData.strOk, sg] using hc
    simp only [pyF, PyData.canLay0, PyData.canLayAll0, h1, h2, Bool.and_self]
  | .bin o a b, h => by
    have h1 := lay_F a h.1
    have h2 := lay_F b h.2
    have h3 : PyData.strOk o.w = true := by cases o <;> decide +kernel
    simp only [pyF, PyData.canLay0, PyData.canLayAll0, h1, h2, h3, Bool.and_self]
theorem shaped_F {f : Fm} (h : f.ok) (hn : f.nest ≤ 64) : PySem.SeqAt.shaped (pyF f) = true := by
  unfold PySem.SeqAt.shaped
  rw [lay_F f h, depth_F]
  simpa using hn
theorem cd_eqFd {X : Cx} {f g : Fm} (hu : X.A.units + 64 < cLine) (hf : f.ok ∧ f.nest ≤ 64) (hg : g.ok ∧ g.nest ≤ 64) : CmpD X .Eq f.d g.d (decide (f = g)) :=
  (cd_eqD hu (toPy_d f) (toPy_d g) (shaped_F hf.1 hf.2) (shaped_F hg.1 hg.2)).eq (eqv_F f g)
end Od

set_option Elab.async false
set_option linter.all false
set_option maxRecDepth 100000
set_option maxHeartbeats 4000000
/-! Ox1: own errors whose __init__ begins with super().__init__(text), then sets code and perhaps one field. -/
namespace Ox
open PySem PySem.W PySem.Calls PyProof.Rows PySem.HandSPX
abbrev supE (msg : Str) (p0 p1 p2 p3 p4 : Pos) (j : Nat) : Expr := .Call (.Attribute (.Call (.Name "super" p0) [] [] p1) "__init__" p2) [.Constant (.str msg) j p3] [] p4
/-- how that call is evaluated -/
def SupEv (msg : Str) (p0 p1 p2 p3 p4 : Pos) (j : Nat) (pl : Sem Bool) (env : Env) : Prop := eval (supE msg p0 p1 p2 p3 p4 j) env = (do
      let ov ← attributeBase (.Call (.Name "super" p0) [] [] p1) "__init__" env (eval (.Call (.Name "super" p0) [] [] p1) env)
      standAt p2.atName
      let (f, first) ← holding [ov] (getMethod ov "__init__" pl)
      callWith p4 f first (backTo p4 (starEach [.Constant (.str msg) j p3] env)) [])
/-- the body: with a field -/
def bod1 (msg code fl : Str) (p0 p1 p2 p3 p4 p5 q1 q2 q3 q4 r1 r2 r3 r4 : Pos) (j k : Nat) : List Stmt :=
  [.Expr (.Call (.Attribute (.Call (.Name "super" p0) [] [] p1) "__init__" p2) [.Constant (.str msg) j p3] [] p4) p5,
   .Assign [.Attribute (.Name "self" q1) "code" q2] (.Constant (.str code) k q3) q4,
   .Assign [.Attribute (.Name "self" r1) fl r2] (.Name fl r3) r4]
/-- .. without -/
def bod0 (msg code : Str) (p0 p1 p2 p3 p4 p5 q1 q2 q3 q4 : Pos) (j k : Nat) : List Stmt :=
  [.Expr (.Call (.Attribute (.Call (.Name "super" p0) [] [] p1) "__init__" p2) [.Constant (.str msg) j p3] [] p4) p5,
   .Assign [.Attribute (.Name "self" q1) "code" q2] (.Constant (.str code) k q3) q4]
/-- what the written part says of the class at C -/
structure SupC (P : Program) (K : Frag) (C fI : Addr) : Prop where
  cls : ∃ nm q N bs bm sn sub ab col dd k0 k1 k2 k3 k5, K.lookup C = some (excClassObj nm q C N bs bm true sn sub ab col dd k0 k1 k2 k3 k5 "ValueError.__new__") ∧ refsVE bm = true
  sa : findIn K (.ref C) "__setattr__" = some (some (.builtin "object.__setattr__"))
  noC : findIn K (.ref C) "code" = some none
  iC : findIn K (.ref C) "__init__" = some (some (.ref fI))
  tC : typeIn K (.ref fI) = some (.type "function")
  kC : keepIn K (.ref C) = true
  exC : subIn K (.ref C) (.type "BaseException") = some true
  veC : subIn K (.ref C) (.type "ValueError") = some true
  tyC : typeIn K (.ref C) = some (.type "type")
  an : nsIn K cStatics "thirdparty.any" = some none
  up : ks_superIn K C C "__init__" = some (some (.builtin "ValueError.__init__"))
  own : mroIn K C (.ref C) = some true
  sup : nsIn K mainGlobals "super" = some none
  top : (P.main.scope.names.lookup ("super" : Str)).isSome = false
/-- its __init__ -/
structure SupI (P : Program) (K : Frag) (C fI : Addr) (qual : Str) (params : Arguments) (body : List Stmt) (scope : Scope) : Prop where
  fn : ∃ (oc : Value) (od : Option Addr) (doc pm : Value) (an : Option Addr) (cda : Addr) (ct : Value) (osl : Array (Option Value)) (cc : Addr), K.lookup fI = some ⟨oc, od, .func (ksFn "__init__" qual params body scope .none .none doc pm an (.ref cda) ct cc), osl⟩ ∧
    (∃ (file : Str) (tf : Tok) (vs : Array Value) (ccl : Value) (cdd : Option Addr) (ccs : Array (Option Value)), K.lookup cda = some ⟨ccl, cdd, .fields vs, ccs⟩ ∧ vs[2]? = some (.str file tf) ∧ ((P.main.file : Str) == file) = true) ∧
    (∃ (cl : Value) (cld : Option Addr) (csl : Array (Option Value)), K.lookup cc = some ⟨cl, cld, .cell (some (.ref C)), csl⟩) ∧ codeIn K (.ref cda) qual = true
  cell : ∀ x ∈ scope.names, x.2 ≠ .cell
  kind : scope.kind = .function
  co : scope.isCoroutine = false
  gen : scope.isGenerator = false
  slf : scope.names.lookup ("self" : Str) = some .local
  spr : scope.names.lookup ("super" : Str) = some .globalImplicit
  cls : scope.names.lookup ("__class__" : Str) = some .free
  head : ∃ ar : Arg, (params.posonlyargs ++ params.args).head? = some ar ∧ ar.arg = "self"
/-- what is left of a fresh exception at x -/
structure MadeE (h h' : Heap) (x C dx t1 : Addr) (m : Str → Option Value) : Prop where
  keep : ∀ b o, b ≠ x → h.get? b = some o → h'.get? b = some o
  obj : h'.get? x = some { cls := .ref C, dict := some dx, data := .fields #[.ref t1, .none, .none, .none, .bool false, .none] }
  dbig : h.objs.size ≤ dx
  dne : dx ≠ x
  ns : h'.Ns1 dx m
section
variable {prog : Program} {w : World} {M : Model} {A : Around} {E : Value → Shared → Prop} {R : Result → Shared → Prop} {h : Heap} {g : Array GenState} {d : Drawn} {t : Nat} {os : OsState} {K : Frag} {C fI : Addr}
/-- the bound built-in __init__, called -/
theorem call_mw {nm q : Str} {N : Addr} {bs bm bmB : List Value} {hdct : Bool} {sn : List Str} {sub : List Value} {ab : Bool} {col : Option Bool} {dd : Option Addr} {k0 k1 k2 k3 k5 : Option Value} {B newId i : String} {u e t0 : Addr} {rest : List Value} {Q : Value → Shared → Prop} (FB : ExcBaseFacts B newId i bmB)
    (hC : h.get? C = some (excClassObj nm q C N bs bm hdct sn sub ab col dd k0 k1 k2 k3 k5 newId)) (he : h.get? e = some (excO C t0)) (hu : h.get? u = some (kxs_mw i e)) (hz : rest.length ≤ sizeLine)
    (hq : ∀ h', (∀ b o, b ≠ e → h.get? b = some o → h'.get? b = some o) → h'.get? e = some (excO C h.objs.size) → Q .none ⟨h', g, d, t, os⟩) : wpAny (model prog w) A (call (.ref u) rest) Q E ⟨h, g, d, t, os⟩ := by
  refine wpAny_call (codeAny_of_tree (show wpAny _ A.in1 (callAny (.ref u) ⟨rest, []⟩) _ _ _ from ?_))
  simp only [callAny]
  refine wpAny_bind (wpAny_load hu ?_)
  have m1 : (Value.type "method-wrapper" == Value.type "method" || Value.type "method-wrapper" == Value.type "builtin_function_or_method" || Value.type "method-wrapper" == Value.type "method-wrapper") = true := by decide
  simp only [kxs_mw, m1, if_true]
  refine KFB.if_so (by decide) (wpAny_bind (check_bound_init FB.toExcCallFacts hC he rfl (wpAny_bind (wpAny_pure (wpAny_pure ?_)))))
  exact ⟨plainId_quiet FB.init.plain _, codeAny_builtin FB.initEntry (exc_init_tree (cls := .ref C) (t0 := t0) (dv := none) (c2 := .none) (c3 := .none) (b4 := .bool false) he hz fun h' k1 k2 _ => hq h' k1 k2)⟩
end
section
variable {prog : Program} {w : World} {A : Around} {R : Result → Shared → Prop} {s : Shared} {K : Frag} {C fI : Addr} {qual msg code fl : Str} {params : Arguments} {scope : Scope} {mg mb : Str → Option Value}
theorem ne_K {x a : Addr} {o : Obj} (hx : K.lookup x = none) (e : K.lookup a = some o) : a ≠ x := fun z => by rw [z, hx] at e; cases e
theorem in_but {h h' : Heap} {x : Addr} (X : K.In h) (hx : K.lookup x = none) (k : ∀ b o, b ≠ x → h.get? b = some o → h'.get? b = some o) : K.In h' := fun a o e => k a o (ne_K hx e) (X a o e)
/-- the first statement -/
theorem sup_first {body : List Stmt} {rest : List Stmt} {cc cda L : Addr} {p0 p1 p2 p3 p4 p5 : Pos} {j : Nat} {x t0 : Addr} {m : Str → Option Value} {E : Value → Shared → Prop} {Q : Flow → Shared → Prop} {fd : FuncData} {oc : Value} {od : Option Addr} {osl : Array (Option Value)} {pl : Sem Bool}
    (T : SupC prog K C fI) (hev : SupEv msg p0 p1 p2 p3 p4 j pl (ksEnv qual scope L fI (.ref cda) cc)) (hi : interactive (ksEnv qual scope L fI (.ref cda) cc) = false) (hsw : swapsWith (supE msg p0 p1 p2 p3 p4 j) none p5.line (ksEnv qual scope L fI (.ref cda) cc) = pure false) (X : K.In s.heap) (hg : s.heap.Ns mainGlobals mg) (hb : s.heap.Ns builtinsNs mb) (hbb : ∀ y : Str, y ≠ "__name__" → mb y = bootBuiltins y)
    (hks : scope.names.lookup ("super" : Str) = some .globalImplicit) (hkc : scope.names.lookup ("__class__" : Str) = some .free) (hka : scope.names.lookup ("self" : Str) = some .local) (hk : scope.kind = .function)
    (hf : K.lookup fI = some ⟨oc, od, .func fd, osl⟩) (hp : ∃ ar : Arg, (fd.params.posonlyargs ++ fd.params.args).head? = some ar ∧ ar.arg = "self")
    (hcode : ∃ (file : Str) (tf : Tok) (vs : Array Value) (ccl : Value) (cdd : Option Addr) (ccs : Array (Option Value)), K.lookup cda = some ⟨ccl, cdd, .fields vs, ccs⟩ ∧ vs[2]? = some (.str file tf) ∧ ((prog.main.file : Str) == file) = true)
    (hcell : ∃ (cl : Value) (cld : Option Addr) (csl : Array (Option Value)), K.lookup cc = some ⟨cl, cld, .cell (some (.ref C)), csl⟩)
    (hn : s.heap.Ns L m) (hs : m "self" = some (.ref x)) (hx : s.heap.get? x = some (excO C t0)) (hnx : K.lookup x = none)
    (hq : ∀ h' tk t1, (∀ b o, b ≠ x → s.heap.get? b = some o → h'.get? b = some o) → h'.get? x = some (excO C t1) → wpAny (model prog w) A (execs rest (ksEnv qual scope L fI (.ref cda) cc)) Q E { s with heap := h', toks := tk }) :
    PySem.wpAt (model prog w) A (.func body (ksEnv qual scope L fI (.ref cda) cc)) (execs (.Expr (.Call (.Attribute (.Call (.Name "super" p0) [] [] p1) "__init__" p2) [.Constant (.str msg) j p3] [] p4) p5 :: rest) (ksEnv qual scope L fI (.ref cda) cc)) Q E s := by
  obtain ⟨ar, hp1, hp2⟩ := hp
  obtain ⟨file, tf, vs, ccl, cdd, ccs, hc1, hc2, hc3⟩ := hcode
  obtain ⟨cl, cld, csl, hcc⟩ := hcell
  obtain ⟨nm, q, N, bs, bm, sn, sub, ab, col, dd, k0, k1, k2, k3, k5, hC, hbm⟩ := T.cls
  have hcl : clsIn K C = some { name := nm, bases := bs, mro := .ref C :: bm, ns := N, qualname := q, hasDict := true, slotNames := sn, subclasses := sub, abstract := ab, collection := col, hasDel := false } := by unfold clsIn; rw [hC] <;> rfl
  refine ks_wpAt_execs_cons (ks_wpAt_Expr_any (ks_wpAt_MethodCall (pl := pl) ?_ hev) hi hsw)
  obtain ⟨hh, g, d, t, os⟩ := s
  refine ks_wpAt_super_base (env := ksEnv qual scope L fI (.ref cda) cc) hks hkc (by decide) rfl (X _ _ hf) rfl hp1 rfl (X _ _ hc1) rfl hc2 hc3 T.top ?_
  have b1 : mb "super" = some (.type "super") := (hbb _ (by decide +kernel)).trans (by first | rfl | decide +kernel)
  refine ks_loadName_global hk hks (loadGlobal_builtin (env := ksEnv qual scope L fI (.ref cda) cc) hg (PySem.W.mg_none_of X hg T.sup) hb b1 ⟨rfl, ?_⟩)
  refine wpAny_loadName_free hk hkc rfl ⟨_, X _ _ hcc, rfl⟩ ?_
  rw [hp2]
  refine wpAny_loadName_local hk hka hn hs ?_
  refine ks_wpAny_isType_cls (X _ _ hC) rfl ⟨rfl, ?_⟩
  refine ks_wpAny_call_super (X _ _ hC) rfl hx rfl (fun c e => by cases e) (looks_mroIn X T.own) fun h1 e1 kk => ?_
  have X1 : K.In h1 := X.keeps kk
  have hx1 := kk _ _ hx
  have I1 : InstAt h1 x (excO C t0) C none := ⟨hx1, rfl, rfl, trivial⟩
  have hsup : alongIn K "__init__" (((Value.ref C :: bm).dropWhile (· != .ref C)).drop 1) = some (some (.builtin "ValueError.__init__")) := by
    have := T.up
    unfold ks_superIn at this
    rw [hcl] at this
    exact this
  refine kxs_getMethod kxs_ValueError e1 (looks_opaque X1 T.an) (l₀ := .ref C :: bm) (fun A Q E s k q => wpAny_bind ((looks_clsIn X1 hcl) A _ E s k (wpAny_pure q))) rfl X1 hsup (I1.type.andThen (looks_subIn X1 T.veC)) (ks_ne X1 I1 hcl) (by decide) ?_
  have hu : (h1.push (kxs_mw "ValueError.__init__" x)).get? h1.objs.size = some (kxs_mw "ValueError.__init__" x) := Heap.get?_push_size _ rfl
  have k2 : ∀ b o, h1.get? b = some o → (h1.push (kxs_mw "ValueError.__init__" x)).get? b = some o := fun b o e => Heap.get?_push_of_some _ e
  refine kxs_callWith (i := "ValueError.__init__") (x := x) rfl ?_
  refine PySem.Calls.evalArgs_plain (PySem.Calls.spliced_cons (PySem.Calls.Constant_str (k := j) (pos := p3) (PySem.Calls.spliced_nil ⟨hu, ?_⟩)))
  refine call_mw PySem.F.excBase_ValueError (k2 _ _ (X1 _ _ hC)) (k2 _ _ hx1) hu (by rw [sizeLine_eq]; exact (by decide : 1 ≤ 16777216)) fun h3 k3 e3 => ?_
  exact _root_.PySem.wpAt_of_wpAny (hq h3 _ _ (fun b o n e => k3 b o n (k2 _ _ (kk _ _ e))) e3)
/-- what the evaluations in the body ask of the words alone -/
structure Ev (msg code fl : Str) (qual : Str) (scope : Scope) (fI : Addr) (p0 p1 p2 p3 p4 p5 q1 q2 q3 q4 r1 r2 r3 r4 : Pos) (j k : Nat) : Prop where
  ev : ∃ pl : Sem Bool, ∀ (L cda cc : Addr), SupEv msg p0 p1 p2 p3 p4 j pl (ksEnv qual scope L fI (.ref cda) cc)
  hi : ∀ (L cda cc : Addr), interactive (ksEnv qual scope L fI (.ref cda) cc) = false
  s1 : ∀ (L cda cc : Addr), swapsWith (supE msg p0 p1 p2 p3 p4 j) none p5.line (ksEnv qual scope L fI (.ref cda) cc) = pure false
  s2 : ∀ (L cda cc : Addr), swapsWith (.Constant (.str code) k q3) (some (.Attribute (.Name "self" q1) "code" q2)) q4.line (ksEnv qual scope L fI (.ref cda) cc) = pure false
  s3 : ∀ (L cda cc : Addr), swapsWith (.Name fl r3) (some (.Attribute (.Name "self" r1) fl r2)) r4.line (ksEnv qual scope L fI (.ref cda) cc) = pure false
theorem lt_of {h h' : Heap} {x b : Addr} {o : Obj} (k : ∀ b o, b ≠ x → h.get? b = some o → h'.get? b = some o) (hx : ∃ o, h'.get? x = some o) (e : h.get? b = some o) : b < h'.objs.size := by
  by_cases z : b = x
  · obtain ⟨o', e'⟩ := hx
    rw [z]; exact Heap.lt_size e'
  · exact Heap.lt_size (k b o z e)
theorem sup_init1 {p0 p1 p2 p3 p4 p5 q1 q2 q3 q4 r1 r2 r3 r4 : Pos} {j k : Nat} (T : SupC prog K C fI) (I : SupI prog K C fI qual params (bod1 msg code fl p0 p1 p2 p3 p4 p5 q1 q2 q3 q4 r1 r2 r3 r4 j k) scope) (V : Ev msg code fl qual scope fI p0 p1 p2 p3 p4 p5 q1 q2 q3 q4 r1 r2 r3 r4 j k)
    (hfl : scope.names.lookup fl = some .local) (nfl : findIn K (.ref C) fl = some none) (nes : (fl == ("self" : Str)) = false) (nd1 : (fl == ("__debug__" : Str)) = false)
    (hb : ∀ (doc pm : Value) (an : Option Addr) (cdv ct : Value) (cc : Addr) (a b : Value), bindArgs (ksFn "__init__" qual params (bod1 msg code fl p0 p1 p2 p3 p4 p5 q1 q2 q3 q4 r1 r2 r3 r4 j k) scope .none .none doc pm an cdv ct cc) ⟨[a, b], []⟩ = pure [(("self" : Str), a), (fl, b)])
    {x t0 : Addr} {v : Value} (X : K.In s.heap) (hlim : s.heap.NoLimit) (hg : s.heap.Ns mainGlobals mg) (hbn : s.heap.Ns builtinsNs mb) (hbb : ∀ y : Str, y ≠ "__name__" → mb y = bootBuiltins y)
    (hx : s.heap.get? x = some (excO C t0)) (hnx : K.lookup x = none) (hxg : x ≠ mainGlobals) (hroom : A.depth < recursionLimit)
    (hq : ∀ h' tk dx t1 tc, MadeE s.heap h' x C dx t1 (fun y => if y = fl then some v else if y = "code" then some (.str code tc) else none) → R (.ok (.ret .none)) { s with heap := h', toks := tk }) :
    codeAny (model prog w) A (.call (.ref fI) ⟨[.ref x, v], []⟩) R s := by
  obtain ⟨oc, od, doc, pm, an, cda, ct, osl, cc, hf, hcode, hcell, hcd⟩ := I.fn
  obtain ⟨nm, q, N, bs, bm, sn, sub, ab, col, dd, k0, k1, k2, k3, k5, hC, hbm⟩ := T.cls
  have hcl : clsIn K C = some { name := nm, bases := bs, mro := .ref C :: bm, ns := N, qualname := q, hasDict := true, slotNames := sn, subclasses := sub, abstract := ab, collection := col, hasDel := false } := by unfold clsIn; rw [hC] <;> rfl
  obtain ⟨pl, ev⟩ := V.ev
  refine ks_codeAny_call_defAt (fd := ksFn "__init__" qual params (bod1 msg code fl p0 p1 p2 p3 p4 p5 q1 q2 q3 q4 r1 r2 r3 r4 j k) scope .none .none doc pm an (.ref cda) ct cc) (body := bod1 msg code fl p0 p1 p2 p3 p4 p5 q1 q2 q3 q4 r1 r2 r3 r4 j k) (binds := [(("self" : Str), .ref x), (fl, v)]) hroom (X _ _ hf) rfl hlim (codeRec_of X hcd) rfl (BindsTo.of_eq (hb _ _ _ _ _ _ _ _)) I.cell (fun y hy => ?_) (fun h1 hn kk => ?_) I.co I.gen I.kind
  · rcases List.mem_cons.mp hy with rfl | hy
    · exact I.slf
    · rcases List.mem_singleton.mp hy with rfl
      exact hfl
  have lk1 : (([(("self" : Str), .ref x), (fl, v)] : List (Str × Value)).reverse).lookup ("self" : Str) = some (.ref x) := by
    have nes' : (("self" : Str) == fl) = false := by
      rw [beq_eq_false_iff_ne] at nes ⊢
      exact fun z => nes z.symm
    simp [List.lookup, nes']
  have lk2 : (([(("self" : Str), .ref x), (fl, v)] : List (Str × Value)).reverse).lookup fl = some v := by simp [List.lookup]
  have hxL : s.heap.objs.size ≠ x := Nat.ne_of_gt (Heap.lt_size hx)
  obtain ⟨hh, g, d, tk0, os⟩ := s
  have KX1 : K.In h1 := X.keeps kk
  refine sup_first (mg := mg) (mb := mb) (m := fun y => (([(("self" : Str), .ref x), (fl, v)] : List (Str × Value)).reverse).lookup y) (x := x) (t0 := t0) T (ev _ _ _) (V.hi _ _ _) (V.s1 _ _ _) KX1 (hg.keeps kk) (hbn.keeps kk) hbb I.spr I.cls I.slf I.kind hf I.head hcode hcell hn lk1 (kk _ _ hx) hnx fun h2 tk2 t2 k2' hx2 => ?_
  have K2 : K.In h2 := in_but KX1 hnx k2'
  have hn2 : h2.Ns hh.objs.size (fun y => (([(("self" : Str), .ref x), (fl, v)] : List (Str × Value)).reverse).lookup y) := hn.at fun o e => k2' _ _ hxL e
  have ldS : ∀ {h : Heap} {M : Model} {A : Around} {E : Value → Shared → Prop} {Q : Value → Shared → Prop} {pos : Pos} {g : Array GenState} {d : Drawn} {t : Nat} {os : OsState}, h.Ns hh.objs.size (fun y => (([(("self" : Str), .ref x), (fl, v)] : List (Str × Value)).reverse).lookup y) → Q (.ref x) ⟨h, g, d, t, os⟩ →
      wpAny M A (eval (.Name "self" pos) (ksEnv qual scope hh.objs.size fI (.ref cda) cc)) Q E ⟨h, g, d, t, os⟩ := fun hn h => PySem.ESX.ldL hn lk1 h I.kind I.slf
  refine wpAny_execs_cons (plainObj_wpAny_Assign_Attribute ?_ (V.s2 _ _ _))
  refine PySem.Calls.Constant_str (ldS hn2 ?_)
  refine set_plain K2 (ox := excO C t2) (od := none) ⟨hx2, rfl, rfl, trivial⟩ T.sa ?_
  refine exc_osa K2 hx2 hcl (show refsVE (.ref C :: bm) = true from hbm) rfl T.noC fun h3 tk3 dx k3' dn dne hx3 hns3 => ?_
  have K3 : K.In h3 := in_but K2 hnx k3'
  have hn3 : h3.Ns hh.objs.size (fun y => (([(("self" : Str), .ref x), (fl, v)] : List (Str × Value)).reverse).lookup y) := hn2.at fun o e => k3' _ _ hxL e
  have ldF : ∀ {M : Model} {A : Around} {E : Value → Shared → Prop} {Q : Value → Shared → Prop} {pos : Pos} {g : Array GenState} {d : Drawn} {t : Nat} {os : OsState}, Q v ⟨h3, g, d, t, os⟩ →
      wpAny M A (eval (.Name fl pos) (ksEnv qual scope hh.objs.size fI (.ref cda) cc)) Q E ⟨h3, g, d, t, os⟩ := fun h => PySem.ESX.ldL hn3 lk2 h I.kind hfl nd1
  refine wpAny_execs_cons (plainObj_wpAny_Assign_Attribute ?_ (V.s3 _ _ _))
  refine ldF (ldS hn3 ?_)
  obtain ⟨oD, _, _, hoD, _, _⟩ := hns3.count (Within.cons "code" _ Within.nil)
  refine set_plain K3 (ox := { cls := .ref C, dict := some dx, data := .fields #[.ref t2, .none, .none, .none, .bool false, .none] }) (od := some oD) ⟨hx3, rfl, rfl, hoD⟩ T.sa ?_
  refine PySem.OEX.osa_old K3 hx3 hns3 (Within.cons "code" _ Within.nil) (by decide) hcl (show refsVE (.ref C :: bm) = true from hbm) rfl nfl fun h4 tk4 k4' hn4 => ?_
  have zz : hh.objs.size ≤ h2.objs.size := by
    have l1 : hh.objs.size < h1.objs.size := hn.lt
    have l2 : hh.objs.size < h2.objs.size := hn2.lt
    omega
  refine wpAny_execs_nil (hq h4 _ dx t2 _ ⟨fun b o n e => ?_, ?_, Nat.le_trans zz dn, dne, hn4⟩)
  · have e3 := k3' b o n (k2' b o n (kk b o e))
    refine k4' b o (fun z => ?_) e3
    rw [z] at e
    have lt : dx < hh.objs.size := Heap.lt_size e
    exact absurd (Nat.lt_of_lt_of_le lt (Nat.le_trans zz (show h2.objs.size ≤ dx from dn))) (Nat.lt_irrefl _)
  · exact k4' x _ (Ne.symm dne) hx3
structure Ev0 (msg code : Str) (qual : Str) (scope : Scope) (fI : Addr) (p0 p1 p2 p3 p4 p5 q1 q2 q3 q4 : Pos) (j k : Nat) : Prop where
  ev : ∃ pl : Sem Bool, ∀ (L cda cc : Addr), SupEv msg p0 p1 p2 p3 p4 j pl (ksEnv qual scope L fI (.ref cda) cc)
  hi : ∀ (L cda cc : Addr), interactive (ksEnv qual scope L fI (.ref cda) cc) = false
  s1 : ∀ (L cda cc : Addr), swapsWith (supE msg p0 p1 p2 p3 p4 j) none p5.line (ksEnv qual scope L fI (.ref cda) cc) = pure false
  s2 : ∀ (L cda cc : Addr), swapsWith (.Constant (.str code) k q3) (some (.Attribute (.Name "self" q1) "code" q2)) q4.line (ksEnv qual scope L fI (.ref cda) cc) = pure false
theorem sup_init0 {p0 p1 p2 p3 p4 p5 q1 q2 q3 q4 : Pos} {j k : Nat} (T : SupC prog K C fI) (I : SupI prog K C fI qual params (bod0 msg code p0 p1 p2 p3 p4 p5 q1 q2 q3 q4 j k) scope) (V : Ev0 msg code qual scope fI p0 p1 p2 p3 p4 p5 q1 q2 q3 q4 j k)
    (hb : ∀ (doc pm : Value) (an : Option Addr) (cdv ct : Value) (cc : Addr) (a : Value), bindArgs (ksFn "__init__" qual params (bod0 msg code p0 p1 p2 p3 p4 p5 q1 q2 q3 q4 j k) scope .none .none doc pm an cdv ct cc) ⟨[a], []⟩ = pure [(("self" : Str), a)])
    {x t0 : Addr} (X : K.In s.heap) (hlim : s.heap.NoLimit) (hg : s.heap.Ns mainGlobals mg) (hbn : s.heap.Ns builtinsNs mb) (hbb : ∀ y : Str, y ≠ "__name__" → mb y = bootBuiltins y)
    (hx : s.heap.get? x = some (excO C t0)) (hnx : K.lookup x = none) (hxg : x ≠ mainGlobals) (hroom : A.depth < recursionLimit)
    (hq : ∀ h' tk dx t1 tc, MadeE s.heap h' x C dx t1 (fun y => if y = "code" then some (.str code tc) else none) → R (.ok (.ret .none)) { s with heap := h', toks := tk }) :
    codeAny (model prog w) A (.call (.ref fI) ⟨[.ref x], []⟩) R s := by
  obtain ⟨oc, od, doc, pm, an, cda, ct, osl, cc, hf, hcode, hcell, hcd⟩ := I.fn
  obtain ⟨nm, q, N, bs, bm, sn, sub, ab, col, dd, k0, k1, k2, k3, k5, hC, hbm⟩ := T.cls
  have hcl : clsIn K C = some { name := nm, bases := bs, mro := .ref C :: bm, ns := N, qualname := q, hasDict := true, slotNames := sn, subclasses := sub, abstract := ab, collection := col, hasDel := false } := by unfold clsIn; rw [hC] <;> rfl
  obtain ⟨pl, ev⟩ := V.ev
  refine ks_codeAny_call_defAt (fd := ksFn "__init__" qual params (bod0 msg code p0 p1 p2 p3 p4 p5 q1 q2 q3 q4 j k) scope .none .none doc pm an (.ref cda) ct cc) (body := bod0 msg code p0 p1 p2 p3 p4 p5 q1 q2 q3 q4 j k) (binds := [(("self" : Str), .ref x)]) hroom (X _ _ hf) rfl hlim (codeRec_of X hcd) rfl (BindsTo.of_eq (hb _ _ _ _ _ _ _)) I.cell (fun y hy => ?_) (fun h1 hn kk => ?_) I.co I.gen I.kind
  · rcases List.mem_singleton.mp hy with rfl
    exact I.slf
  have lk1 : (([(("self" : Str), .ref x)] : List (Str × Value)).reverse).lookup ("self" : Str) = some (.ref x) := by
    simp [List.lookup]
  have hxL : s.heap.objs.size ≠ x := Nat.ne_of_gt (Heap.lt_size hx)
  obtain ⟨hh, g, d, tk0, os⟩ := s
  have KX1 : K.In h1 := X.keeps kk
  refine sup_first (mg := mg) (mb := mb) (m := fun y => (([(("self" : Str), .ref x)] : List (Str × Value)).reverse).lookup y) (x := x) (t0 := t0) T (ev _ _ _) (V.hi _ _ _) (V.s1 _ _ _) KX1 (hg.keeps kk) (hbn.keeps kk) hbb I.spr I.cls I.slf I.kind hf I.head hcode hcell hn lk1 (kk _ _ hx) hnx fun h2 tk2 t2 k2' hx2 => ?_
  have K2 : K.In h2 := in_but KX1 hnx k2'
  have hn2 : h2.Ns hh.objs.size (fun y => (([(("self" : Str), .ref x)] : List (Str × Value)).reverse).lookup y) := hn.at fun o e => k2' _ _ hxL e
  have ldS : ∀ {h : Heap} {M : Model} {A : Around} {E : Value → Shared → Prop} {Q : Value → Shared → Prop} {pos : Pos} {g : Array GenState} {d : Drawn} {t : Nat} {os : OsState}, h.Ns hh.objs.size (fun y => (([(("self" : Str), .ref x)] : List (Str × Value)).reverse).lookup y) → Q (.ref x) ⟨h, g, d, t, os⟩ →
      wpAny M A (eval (.Name "self" pos) (ksEnv qual scope hh.objs.size fI (.ref cda) cc)) Q E ⟨h, g, d, t, os⟩ := fun hn h => PySem.ESX.ldL hn lk1 h I.kind I.slf
  refine wpAny_execs_cons (plainObj_wpAny_Assign_Attribute ?_ (V.s2 _ _ _))
  refine PySem.Calls.Constant_str (ldS hn2 ?_)
  refine set_plain K2 (ox := excO C t2) (od := none) ⟨hx2, rfl, rfl, trivial⟩ T.sa ?_
  refine exc_osa K2 hx2 hcl (show refsVE (.ref C :: bm) = true from hbm) rfl T.noC fun h3 tk3 dx k3' dn dne hx3 hns3 => ?_
  have K3 : K.In h3 := in_but K2 hnx k3'
  have hn3 : h3.Ns hh.objs.size (fun y => (([(("self" : Str), .ref x)] : List (Str × Value)).reverse).lookup y) := hn2.at fun o e => k3' _ _ hxL e
  have zz : hh.objs.size ≤ h2.objs.size := by
    have l1 : hh.objs.size < h1.objs.size := hn.lt
    have l2 : hh.objs.size < h2.objs.size := hn2.lt
    omega
  refine wpAny_execs_nil (hq h3 _ dx t2 _ ⟨fun b o n e => k3' b o n (k2' b o n (kk b o e)), hx3, Nat.le_trans zz dn, dne, hns3⟩)
end
end Ox

set_option Elab.async false
set_option linter.all false
set_option maxRecDepth 100000
set_option maxHeartbeats 4000000
/-! Ox2: such an error made: C(v), C(); raise. -/
namespace Ox
open PySem PySem.W PySem.Calls PyProof.Rows PySem.HandSPX
/-- a made exception, and all that stood -/
structure MadeX (h h' : Heap) (e C d : Addr) (m : Str → Option Value) : Prop where
  keep : ∀ b o, h.get? b = some o → h'.get? b = some o
  new : h.objs.size ≤ e
  obj : ∃ oe vs, h'.get? e = some oe ∧ oe.cls = .ref C ∧ oe.dict = some d ∧ oe.data = .fields vs ∧ vs[1]? = some .none
  dbig : h.objs.size ≤ d
  dne : d ≠ e
  ns : h'.Ns1 d m
/-- the class c makes errors of the fields ns; given: what the call hands on and what the fields hold -/
structure Err (P : Program) (w : World) (K : Frag) (mg : Str → Option Value) (c : Str) (C : Addr) : Prop where
  mC : mg c = some (.ref C)
  kC : keepIn K (.ref C) = true
  exC : subIn K (.ref C) (.type "BaseException") = some true
  tyC : typeIn K (.ref C) = some (.type "type")
structure Err1 (P : Program) (w : World) (K : Frag) (mg : Str → Option Value) (c code fl : Str) (C : Addr) : Prop extends Err P w K mg c C where
  run : ∀ (A : Around) (s : Shared) (R : Result → Shared → Prop) (v : Value) (mb : Str → Option Value), K.In s.heap → s.heap.NoLimit → s.heap.Ns mainGlobals mg → s.heap.Ns builtinsNs mb → (∀ y : Str, y ≠ "__name__" → mb y = bootBuiltins y) → A.depth + 1 < recursionLimit →
    (∀ h' tk e d tc, MadeX s.heap h' e C d (fun y => if y = fl then some v else if y = "code" then some (.str code tc) else none) → R (.ok (.ret (.ref e))) { s with heap := h', toks := tk }) → codeAny (model P w) A (.call (.ref C) ⟨[v], []⟩) R s
structure Err0 (P : Program) (w : World) (K : Frag) (mg : Str → Option Value) (c code : Str) (C : Addr) : Prop extends Err P w K mg c C where
  run : ∀ (A : Around) (s : Shared) (R : Result → Shared → Prop) (mb : Str → Option Value), K.In s.heap → s.heap.NoLimit → s.heap.Ns mainGlobals mg → s.heap.Ns builtinsNs mb → (∀ y : Str, y ≠ "__name__" → mb y = bootBuiltins y) → A.depth + 1 < recursionLimit →
    (∀ h' tk e d tc, MadeX s.heap h' e C d (fun y => if y = "code" then some (.str code tc) else none) → R (.ok (.ret (.ref e))) { s with heap := h', toks := tk }) → codeAny (model P w) A (.call (.ref C) ⟨[], []⟩) R s
section
variable {P : Program} {w : World} {A : Around} {R : Result → Shared → Prop} {s : Shared} {K : Frag} {C fI : Addr} {mg mb : Str → Option Value}
theorem ns_push2 {h : Heap} {b : Addr} {m : Str → Option Value} {o1 o2 : Obj} (n : h.Ns b m) : ((h.push o1).push o2).Ns b m := n.keeps fun b o e => Heap.get?_push_of_some _ (Heap.get?_push_of_some _ e)
theorem new_none {h : Heap} (X : K.In h) : K.lookup (h.objs.size + 1) = none := by
  cases e : K.lookup (h.objs.size + 1) with
  | none => rfl
  | some o => exact absurd (Nat.lt_of_succ_lt (Heap.lt_size (X _ _ e))) (Nat.lt_irrefl _)
theorem size_push2 {h : Heap} {o1 o2 : Obj} : ((h.push o1).push o2).objs.size = h.objs.size + 1 + 1 := by rw [Heap.size_push, Heap.size_push]
theorem made_of {h h' : Heap} {args : List Value} {dx t1 : Addr} {m : Str → Option Value} (M : MadeE ((h.push (kdv_tup args)).push (excO C h.objs.size)) h' (h.objs.size + 1) C dx t1 m) : MadeX h h' (h.objs.size + 1) C dx m := by
  obtain ⟨kp, hx, dn, dne, hns⟩ := M
  have kk : ∀ b o, h.get? b = some o → ((h.push (kdv_tup args)).push (excO C h.objs.size)).get? b = some o := fun b o e => Heap.get?_push_of_some _ (Heap.get?_push_of_some _ e)
  rw [size_push2] at dn
  exact ⟨fun b o e => kp b o (Nat.ne_of_lt (Nat.lt_succ_of_lt (Heap.lt_size e))) (kk b o e), Nat.le_succ _, ⟨_, _, hx, rfl, rfl, rfl, rfl⟩, by omega, dne, hns⟩
theorem err1_of {c msg code fl qual : Str} {params : Arguments} {scope : Scope} {p0 p1 p2 p3 p4 p5 q1 q2 q3 q4 r1 r2 r3 r4 : Pos} {j k : Nat} (mC : mg c = some (.ref C)) (T : SupC P K C fI) (I : SupI P K C fI qual params (bod1 msg code fl p0 p1 p2 p3 p4 p5 q1 q2 q3 q4 r1 r2 r3 r4 j k) scope) (V : Ev msg code fl qual scope fI p0 p1 p2 p3 p4 p5 q1 q2 q3 q4 r1 r2 r3 r4 j k)
    (hfl : scope.names.lookup fl = some .local) (nfl : findIn K (.ref C) fl = some none) (nes : (fl == ("self" : Str)) = false) (nd1 : (fl == ("__debug__" : Str)) = false)
    (hb : ∀ (doc pm : Value) (an : Option Addr) (cdv ct : Value) (cc : Addr) (a b : Value), bindArgs (ksFn "__init__" qual params (bod1 msg code fl p0 p1 p2 p3 p4 p5 q1 q2 q3 q4 r1 r2 r3 r4 j k) scope .none .none doc pm an cdv ct cc) ⟨[a, b], []⟩ = pure [(("self" : Str), a), (fl, b)]) : Err1 P w K mg c code fl C where
  mC := mC
  kC := T.kC
  exC := T.exC
  tyC := T.tyC
  run := fun A s R v mb X hlim hg hbn hbb hroom hq => by
    obtain ⟨nm, q, N, bs, bm, sn, sub, ab, col, dd, k0, k1, k2, k3, k5, hC, hbm⟩ := T.cls
    obtain ⟨hp, g, dr, tk, os⟩ := s
    have kk : ∀ b o, hp.get? b = some o → ((hp.push (kdv_tup [v])).push (excO C hp.objs.size)).get? b = some o := fun b o e => Heap.get?_push_of_some _ (Heap.get?_push_of_some _ e)
    have hget : ((hp.push (kdv_tup [v])).push (excO C hp.objs.size)).get? (hp.objs.size + 1) = some (excO C hp.objs.size) := by heap_get
    refine call_own F.excBase_ValueError (fun Y => refsVE_contains Y bm hbm) (X _ _ hC) (looks_findIn X T.iC) (fun self => bind_fn X self T.tC) (by rw [sizeLine_eq]; simp) ?_
    refine sup_init1 (s := ⟨(hp.push (kdv_tup [v])).push (excO C hp.objs.size), g, dr, tk, os⟩) T I V hfl nfl nes nd1 hb (X.keeps kk) (hlim.keeps kk) (hg.keeps kk) (hbn.keeps kk) hbb hget (new_none X) (fun z => ?_) hroom fun h' tk' dx t1 tc M => ⟨rfl, hq h' tk' _ dx tc (made_of M)⟩
    obtain ⟨o, _, _, e, _⟩ := hg
    have := Heap.lt_size e
    rw [← z] at this
    exact absurd (Nat.lt_of_succ_lt this) (Nat.lt_irrefl _)
theorem err0_of {c msg code fl qual : Str} {params : Arguments} {scope : Scope} {p0 p1 p2 p3 p4 p5 q1 q2 q3 q4 : Pos} {j k : Nat} (mC : mg c = some (.ref C)) (T : SupC P K C fI) (I : SupI P K C fI qual params (bod0 msg code p0 p1 p2 p3 p4 p5 q1 q2 q3 q4 j k) scope) (V : Ev0 msg code qual scope fI p0 p1 p2 p3 p4 p5 q1 q2 q3 q4 j k)
    (hb : ∀ (doc pm : Value) (an : Option Addr) (cdv ct : Value) (cc : Addr) (a : Value), bindArgs (ksFn "__init__" qual params (bod0 msg code p0 p1 p2 p3 p4 p5 q1 q2 q3 q4 j k) scope .none .none doc pm an cdv ct cc) ⟨[a], []⟩ = pure [(("self" : Str), a)]) : Err0 P w K mg c code C where
  mC := mC
  kC := T.kC
  exC := T.exC
  tyC := T.tyC
  run := fun A s R mb X hlim hg hbn hbb hroom hq => by
    obtain ⟨nm, q, N, bs, bm, sn, sub, ab, col, dd, k0, k1, k2, k3, k5, hC, hbm⟩ := T.cls
    obtain ⟨hp, g, dr, tk, os⟩ := s
    have kk : ∀ b o, hp.get? b = some o → ((hp.push (kdv_tup [])).push (excO C hp.objs.size)).get? b = some o := fun b o e => Heap.get?_push_of_some _ (Heap.get?_push_of_some _ e)
    have hget : ((hp.push (kdv_tup [])).push (excO C hp.objs.size)).get? (hp.objs.size + 1) = some (excO C hp.objs.size) := by heap_get
    refine call_own F.excBase_ValueError (fun Y => refsVE_contains Y bm hbm) (X _ _ hC) (looks_findIn X T.iC) (fun self => bind_fn X self T.tC) (by rw [sizeLine_eq]; simp) ?_
    refine sup_init0 (s := ⟨(hp.push (kdv_tup [])).push (excO C hp.objs.size), g, dr, tk, os⟩) T I V hb (X.keeps kk) (hlim.keeps kk) (hg.keeps kk) (hbn.keeps kk) hbb hget (new_none X) (fun z => ?_) hroom fun h' tk' dx t1 tc M => ⟨rfl, hq h' tk' _ dx tc (made_of M)⟩
    obtain ⟨o, _, _, e, _⟩ := hg
    have := Heap.lt_size e
    rw [← z] at this
    exact absurd (Nat.lt_of_succ_lt this) (Nat.lt_irrefl _)
end
end Ox
namespace L2
open PySem PySem.Spec PyProof.Rows Ox
theorem relO_xd {ns : List (Str × V)} {m : Str → Option Value} (h : ∀ f, RelO (ns.lookup f) (m f)) (f : Str) : RelO (ns.lookup f) (m f) := h f
theorem relO_1 {fl code : Str} {v : V} {v' : Value} {tc : Tok} (r : RelV v v') (hne : (fl == ("code" : Str)) = false) (f : Str) : RelO (List.lookup f [(("code" : Str), V.str code), (fl, v)]) (if f = fl then some v' else if f = "code" then some (.str code tc) else none) := by
  by_cases h : f = fl
  · subst h
    rw [if_pos rfl]
    have q : List.lookup f [(("code" : Str), V.str code), (f, v)] = some v := by simp [List.lookup, hne]
    rw [q]; exact r
  · rw [if_neg h]
    have h' : (f == fl) = false := by simpa using h
    by_cases h2 : f = "code"
    · subst h2
      rw [if_pos rfl]
      have q : List.lookup ("code" : Str) [(("code" : Str), V.str code), (fl, v)] = some (V.str code) := by simp [List.lookup]
      rw [q]; exact ⟨tc, rfl⟩
    · rw [if_neg h2]
      have h2' : (f == ("code" : Str)) = false := by simpa using h2
      have q : List.lookup f [(("code" : Str), V.str code), (fl, v)] = none := by simp [List.lookup, h', h2']
      rw [q]; trivial
theorem relO_0 {code : Str} {tc : Tok} (f : Str) : RelO (List.lookup f [(("code" : Str), V.str code)]) (if f = "code" then some (.str code tc) else none) := by
  by_cases h2 : f = "code"
  · subst h2
    rw [if_pos rfl]
    have q : List.lookup ("code" : Str) [(("code" : Str), V.str code)] = some (V.str code) := by simp [List.lookup]
    rw [q]; exact ⟨tc, rfl⟩
  · rw [if_neg h2]
    have h2' : (f == ("code" : Str)) = false := by simpa using h2
    have q : List.lookup f [(("code" : Str), V.str code)] = none := by simp [List.lookup, h2']
    rw [q]; trivial
section
variable {X : Cx} {C : Addr} {c code fl : Str}
theorem mkp_of {pins : List (Addr × Obj)} {σ : L2.St} {H1 : Hp} {Q : XK} {hp h' : Heap} {g : Array GenState} {dr : Drawn} {tk tk' : Nat} {os : OsState} {e d : Addr} {m : Str → Option Value} {fs : List (Str × V)} (E : Err X.prog X.w X.K X.mg c C) (I1 : Inv X pins σ H1 ⟨hp, g, dr, tk, os⟩)
    (M : MadeX hp h' e C d m) (hr : ∀ f, RelO (fs.lookup f) (m f)) (q1 : ∀ d, H1 d = none → Q (.ref C) (some d) (upd H1 d (.xd fs))) : MkP X pins σ Q (.ref e) ⟨h', g, dr, tk', os⟩ := by
  obtain ⟨oe, fv, hoe, hc, hd, hdat, h1⟩ := M.obj
  obtain ⟨G', g1, g2⟩ := restrict h' fun b => decide (b ≠ e)
  have gk : ∀ b, b ≠ e → G'.get? b = h'.get? b := fun b hb => g1 b (decide_eq_true hb)
  have ge : G'.get? e = none := g2 e (by simp)
  have J : Inv X pins σ (upd H1 d (.xd fs)) ⟨G', g, dr, tk', os⟩ := I1.laid (t' := tk') (fun b o q => (gk b (Nat.ne_of_lt (Nat.lt_of_lt_of_le (Heap.lt_size q) M.new))).trans (M.keep b o q)) M.dbig
    (⟨_, M.ns.at (fun o q => (gk d M.dne).trans q), hr⟩ : ObjOk X.prog X.w (upd H1 d (.xd fs)) G' d (.xd fs))
  refine ⟨e, oe, fv, ⟨G', g, dr, tk', os⟩, _, .ref C, some d, rfl, J, fun b o q => ?_, ge, hoe, ⟨hc, hd⟩, hdat, h1, ?_, rfl, I1.bare, raises_own E.exC E.tyC, q1 d (I1.hok.fresh M.dbig)⟩
  · by_cases hb : b = e
    · have q' : G'.get? b = some o := q
      rw [hb, ge] at q'; cases q'
    · exact (gk b hb).symm.trans q
  · rw [upd_ne (Ne.symm M.dne)]; exact I1.hok.fresh M.new
/-- c(e) -/
def tMk1 (C : Addr) (code fl : Str) (ta : TA) : L2.St → Hp → XK → Prop := fun σ H Q => ta σ H fun vs H1 => ∃ v, vs = [v] ∧ ∀ d, H1 d = none → Q (.ref C) (some d) (upd H1 d (.xd [(("code" : Str), .str code), (fl, v)]))
def tMk0 (C : Addr) (code : Str) : L2.St → Hp → XK → Prop := fun σ H Q => ∀ d, H d = none → Q (.ref C) (some d) (upd H d (.xd [(("code" : Str), .str code)]))
theorem pmk_1 {a : Expr} {ta : TA} {p pos : Pos} {k : Nat} (T : Err1 X.prog X.w X.K X.mg c code fl C) (hne : (fl == ("code" : Str)) = false) (hr : Room k X.A) (ha : PA X [a] ta) (hg : Gl X c) (hdb : (c == ("__debug__" : Str)) = false) (he : starEach (a :: []) X.env = (false, eval a X.env) :: starEach [] X.env) (hpl : (backTo pos (starEach [] X.env)).any (·.1) = false) : PMk X (.Call (.Name c p) [a] [] pos) (tMk1 C code fl ta) := by
  intro pins s σ H Q I h
  refine wpAny_Call_Name_kw (ld_glob I hg T.mC (PySem.W.callWith_K (h₀ := X.base) I.ok.mod.kin T.kC (thn (ha.run pos pins s σ H _ I h) fun us s1 hh => ?_) he hpl) hdb)
  obtain ⟨vs, H1, I1, r1, v, ev, q1⟩ := hh
  subst ev
  refine ⟨I1.kIn, ?_⟩
  cases r1 with
  | cons rv rn =>
    rename_i v' us'
    cases rn
    have hlim := I1.nolimit
    have hgl := I1.mod.glob.keeps I1.bk
    obtain ⟨mb, hb1, hb2⟩ := I1.mod.blt
    have hbn := hb1.keeps I1.bk
    obtain ⟨hp, g, dr, tk, os⟩ := s1
    exact wpAny_call (T.run X.A ⟨hp, g, dr, tk, os⟩ _ v' mb I1.kIn hlim hgl hbn hb2 (by have := hr.dp; omega) fun h' tk' e d tc M => mkp_of T.toErr I1 M (fun f => relO_1 rv hne f) q1)
theorem pmk_0 {p pos : Pos} {k : Nat} (T : Err0 X.prog X.w X.K X.mg c code C) (hr : Room k X.A) (hg : Gl X c) (hdb : (c == ("__debug__" : Str)) = false) : PMk X (.Call (.Name c p) [] [] pos) (tMk0 C code) := by
  intro pins s σ H Q I h
  refine wpAny_Call_Name_kw (ld_glob I hg T.mC (PySem.W.callWith_K0 I.kIn T.kC ?_) hdb)
  have hlim := I.nolimit
  have hgl := I.mod.glob.keeps I.bk
  obtain ⟨mb, hb1, hb2⟩ := I.mod.blt
  have hbn := hb1.keeps I.bk
  obtain ⟨hp, g, dr, tk, os⟩ := s
  exact wpAny_call (T.run X.A ⟨hp, g, dr, tk, os⟩ _ mb I.kIn hlim hgl hbn hb2 (by have := hr.dp; omega) fun h' tk' e d tc M => mkp_of T.toErr I M (fun f => relO_0 f) h)
end
end L2

set_option Elab.async false
set_option linter.all false
set_option maxRecDepth 100000
set_option maxHeartbeats 4000000
/-! Ox3: errors as data; what raises; promises one by one. -/
namespace Od
open PySem L2
/-- an error: its class, its fields -/
structure Xc where
  c : Str
  ns : List Str
  ds : List D
inductive Out where
  | ok (d : D)
  | err (x : Xc)
def RX (K : PySem.W.Frag) (mg : Str → Option Value) (M : Addr → Prop) (H : Hp) (cls : Value) (d : Option Addr) (x : Xc) : Prop :=
  ∃ (C dd : Addr) (xs : List V), mg x.c = some (.ref C) ∧ cls = .ref C ∧ d = some dd ∧ ¬ M dd ∧ H dd = some (.xd (x.ns.zip xs)) ∧ x.ns.length = xs.length ∧ Rs K mg M H xs x.ds
theorem RX.ext {K : PySem.W.Frag} {mg : Str → Option Value} {M M' : Addr → Prop} {H H' : Hp} {cls : Value} {d : Option Addr} {x : Xc} (k : ∀ a o, ¬ M a → H a = some o → H' a = some o) (m : ∀ a, ¬ M a → H a ≠ none → ¬ M' a) (r : RX K mg M H cls d x) : RX K mg M' H' cls d x := by
  obtain ⟨C, dd, xs, h1, h2, h3, h4, h5, h6, h7⟩ := r
  exact ⟨C, dd, xs, h1, h2, h3, m _ h4 (by rw [h5]; simp), k _ _ h4 h5, h6, Rs.ext k m _ h7⟩
/-- what is wanted of an outcome -/
def OutK (K : PySem.W.Frag) (mg : Str → Option Value) (M : Addr → Prop) (A0 : List Addr) (H0 : Hp) (c2 : Cs) (Q : VK) (E : XK) : Out → Prop
  | .ok d => ∀ v H', (∀ a, M a → H' a ≠ none) → Ext A0 H0 H' → (∀ p ∈ c2, M p.1 ∧ Cell K mg M H' p.1 p.2) → R K mg M H' v d → Q v H'
  | .err x => ∀ cls d H', (∀ a, M a → H' a ≠ none) → Ext A0 H0 H' → (∀ p ∈ c2, M p.1 ∧ Cell K mg M H' p.1 p.2) → RX K mg M H' cls d x → E cls d H'
/-- a promise of one call -/
def outSp (K : PySem.W.Frag) (mg : Str → Option Value) (args : List D) (cz : Cs) (res : Out) (cz' : Cs) : Sp := fun vs H Q E =>
  ∃ M : Addr → Prop, (∀ a, M a → H a ≠ none) ∧ Rs K mg M H vs args ∧ (∀ p ∈ cz, M p.1 ∧ Cell K mg M H p.1 p.2) ∧ (dom cz).Nodup ∧ OutK K mg M (dom cz) H cz' Q E res
/-- the same of a maker: the new instance behind it -/
inductive MOut where
  | ok (ns : List Str) (ds : List D)
  | err (x : Xc)
def makSp (K : PySem.W.Frag) (mg : Str → Option Value) (c : Str) (args : List D) (res : MOut) : Sp := fun vs H Q E =>
  ∃ (M : Addr → Prop) (x C dx : Addr) (rest : List V), vs = .ref x :: rest ∧ mg c = some (.ref C) ∧ H x = some (.ins C dx []) ∧ ¬ M x ∧ (∀ a, M a → H a ≠ none) ∧ Rs K mg (fun a => M a ∨ a = x) H rest args ∧
    match res with
    | .ok ns ds => ∀ H', (∀ a, M a → H' a ≠ none) → Ext [x] H H' → R K mg M H' (.ref x) (.obj c ns ds) → Q .non H'
    | .err z => ∀ cls d H', (∀ a, M a → H' a ≠ none) → Ext [x] H H' → RX K mg M H' cls d z → E cls d H'
section
variable (P : Program) (w : World) (K : PySem.W.Frag) (mg : Str → Option Value) (base : Heap)
abbrev Fn (n : Str) (k : Nat) (args : List D) (cz : Cs) (res : Out) (cz' : Cs) : Prop := Dfn P w K mg base n k (outSp K mg args cz res cz')
abbrev Me (c m : Str) (k : Nat) (args : List D) (cz : Cs) (res : Out) (cz' : Cs) : Prop := Mth P w K mg base c m k (outSp K mg args cz res cz')
abbrev Sm (c m : Str) (k : Nat) (args : List D) (cz : Cs) (res : Out) (cz' : Cs) : Prop := Stc P w K mg base c m k (outSp K mg args cz res cz')
abbrev Pr (c m : Str) (k : Nat) (args : List D) (res : Out) : Prop := Prp P w K mg base c m k (outSp K mg args [] res [])
abbrev Du (c m : Str) (k : Nat) (args : List D) (res : Out) : Prop := Dun P w K mg base c m k (outSp K mg args [] res [])
abbrev Ma (c : Str) (k : Nat) (args : List D) (res : MOut) : Prop := Mkr P w K mg base c k (makSp K mg c args res)
end
section
variable {P : Program} {w : World} {K : PySem.W.Frag} {mg : Str → Option Value} {base : Heap} {n c m : Str} {k : Nat} {ι : Type} {pre : ι → Prop} {args : ι → List D} {cz cz' : ι → Cs} {res : ι → D}
theorem out_of_fn {i : ι} (hp : pre i) : ∀ vs H Q E, outSp K mg (args i) (cz i) (.ok (res i)) (cz' i) vs H Q E → fnSp K mg pre args cz res cz' vs H Q E := fun vs H Q E ⟨M, h1, h2, h3, h4, h5⟩ => ⟨M, i, hp, h1, h2, h3, h4, h5⟩
theorem Dfn.imp {sp sp' : Sp} (F : Dfn P w K mg base n k sp) (h : ∀ vs H Q E, sp' vs H Q E → sp vs H Q E) : Dfn P w K mg base n k sp' := by
  obtain ⟨f, a, b, F⟩ := F.ex
  exact ⟨f, a, b, F.imp h⟩
theorem Mth.imp {sp sp' : Sp} (F : Mth P w K mg base c m k sp) (h : ∀ vs H Q E, sp' vs H Q E → sp vs H Q E) : Mth P w K mg base c m k sp' := by
  obtain ⟨C, f, a, b, d, F⟩ := F.ex
  exact ⟨C, f, a, b, d, F.imp h⟩
theorem Stc.imp {sp sp' : Sp} (F : Stc P w K mg base c m k sp) (h : ∀ vs H Q E, sp' vs H Q E → sp vs H Q E) : Stc P w K mg base c m k sp' := by
  obtain ⟨C, mc, g, a, b, d, e, F⟩ := F.ex
  exact ⟨C, mc, g, a, b, d, e, F.imp h⟩
theorem Prp.imp {sp sp' : Sp} (F : Prp P w K mg base c m k sp) (h : ∀ vs H Q E, sp' vs H Q E → sp vs H Q E) : Prp P w K mg base c m k sp' := by
  obtain ⟨C, p, g, a, b, d, F⟩ := F.ex
  exact ⟨C, p, g, a, b, d, F.imp h⟩
theorem Dun.imp {sp sp' : Sp} (F : Dun P w K mg base c m k sp) (h : ∀ vs H Q E, sp' vs H Q E → sp vs H Q E) : Dun P w K mg base c m k sp' := by
  obtain ⟨C, f, a, b, d, F⟩ := F.ex
  exact ⟨C, f, a, b, d, F.imp h⟩
theorem Mkr.imp {sp sp' : Sp} (F : Mkr P w K mg base c k sp) (h : ∀ vs H Q E, sp' vs H Q E → sp vs H Q E) : Mkr P w K mg base c k sp' := by
  obtain ⟨C, f, a, b, F⟩ := F.ex
  exact ⟨C, f, a, b, F.imp h⟩
theorem Dfn.up' {sp : Sp} {j : Nat} (F : Dfn P w K mg base n k sp) (h : k ≤ j) : Dfn P w K mg base n j sp := by
  obtain ⟨f, a, b, F⟩ := F.ex
  exact ⟨f, a, b, F.mono h⟩
theorem Mth.up' {sp : Sp} {j : Nat} (F : Mth P w K mg base c m k sp) (h : k ≤ j) : Mth P w K mg base c m j sp := by
  obtain ⟨C, f, a, b, d, F⟩ := F.ex
  exact ⟨C, f, a, b, d, F.mono h⟩
theorem Stc.up' {sp : Sp} {j : Nat} (F : Stc P w K mg base c m k sp) (h : k ≤ j) : Stc P w K mg base c m j sp := by
  obtain ⟨C, mc, g, a, b, d, e, F⟩ := F.ex
  exact ⟨C, mc, g, a, b, d, e, F.mono h⟩
theorem Prp.up' {sp : Sp} {j : Nat} (F : Prp P w K mg base c m k sp) (h : k ≤ j) : Prp P w K mg base c m j sp := by
  obtain ⟨C, p, g, a, b, d, F⟩ := F.ex
  exact ⟨C, p, g, a, b, d, F.mono h⟩
theorem Dun.up' {sp : Sp} {j : Nat} (F : Dun P w K mg base c m k sp) (h : k ≤ j) : Dun P w K mg base c m j sp := by
  obtain ⟨C, f, a, b, d, F⟩ := F.ex
  exact ⟨C, f, a, b, d, F.mono h⟩
theorem Mkr.up' {sp : Sp} {j : Nat} (F : Mkr P w K mg base c k sp) (h : k ≤ j) : Mkr P w K mg base c j sp := by
  obtain ⟨C, f, a, b, F⟩ := F.ex
  exact ⟨C, f, a, b, F.mono h⟩
theorem mak_of_mk {ns : List Str} {dz : ι → List D} {i : ι} (hp : pre i) : ∀ vs H Q E, makSp K mg c (args i) (.ok ns (dz i)) vs H Q E → mkSp K mg c pre args ns dz vs H Q E := fun vs H Q E ⟨M, x, C, dx, rest, h1, h2, h3, h4, h5, h6, h7⟩ => ⟨M, i, x, C, dx, rest, hp, h1, h2, h3, h4, h5, h6, h7⟩
/-- old promises, one by one -/
theorem Dfn.at (F : Dfn P w K mg base n k (fnSp K mg pre args cz res cz')) (i : ι) (hp : pre i) : Fn P w K mg base n k (args i) (cz i) (.ok (res i)) (cz' i) := F.imp (out_of_fn hp)
theorem Mth.at (F : Mth P w K mg base c m k (fnSp K mg pre args cz res cz')) (i : ι) (hp : pre i) : Me P w K mg base c m k (args i) (cz i) (.ok (res i)) (cz' i) := F.imp (out_of_fn hp)
theorem Stc.at (F : Stc P w K mg base c m k (fnSp K mg pre args cz res cz')) (i : ι) (hp : pre i) : Sm P w K mg base c m k (args i) (cz i) (.ok (res i)) (cz' i) := F.imp (out_of_fn hp)
theorem Prp.at (F : Prp P w K mg base c m k (puSp K mg pre args res)) (i : ι) (hp : pre i) : Pr P w K mg base c m k (args i) (.ok (res i)) := F.imp (out_of_fn (cz := fun _ => []) (cz' := fun _ => []) hp)
theorem Dun.at (F : Dun P w K mg base c m k (puSp K mg pre args res)) (i : ι) (hp : pre i) : Du P w K mg base c m k (args i) (.ok (res i)) := F.imp (out_of_fn (cz := fun _ => []) (cz' := fun _ => []) hp)
theorem Mkr.at {ns : List Str} {dz : ι → List D} (F : Mkr P w K mg base c k (mkSp K mg c pre args ns dz)) (i : ι) (hp : pre i) : Ma P w K mg base c k (args i) (.ok ns (dz i)) := F.imp (mak_of_mk hp)
/-- .. and new promises as old ones -/
theorem fn_of_out {a : List D} {z z' : Cs} {r : D} : ∀ vs H Q E, fnSp K mg (fun _ : Unit => True) (fun _ => a) (fun _ => z) (fun _ => r) (fun _ => z') vs H Q E → outSp K mg a z (.ok r) z' vs H Q E := fun vs H Q E ⟨M, _, _, h1, h2, h3, h4, h5⟩ => ⟨M, h1, h2, h3, h4, h5⟩
theorem mk_of_mak {a : List D} {ns : List Str} {ds : List D} : ∀ vs H Q E, mkSp K mg c (fun _ : Unit => True) (fun _ => a) ns (fun _ => ds) vs H Q E → makSp K mg c a (.ok ns ds) vs H Q E := fun vs H Q E ⟨M, _, x, C, dx, rest, _, h1, h2, h3, h4, h5, h6, h7⟩ => ⟨M, x, C, dx, rest, h1, h2, h3, h4, h5, h6, h7⟩
end
/-! ### what raises -/
structure EX (X : Cx) (M : Addr → Prop) (e : DE) (cs : Cs) (ex : Expr) (x : Xc) (cs' : Cs) : Prop where
  dm : dom cs' = dom cs
  k : ∀ (σ : L2.St) (H : Hp) (W : WX) (Q : VK), Takes X W → Sit X.K X.mg M σ H e cs → (∀ cls d H', Sit X.K X.mg M σ H' e cs' → Ext (dom cs) H H' → RX X.K X.mg M H' cls d x → W cls d σ H') → wE X ex σ H Q
structure XA (X : Cx) (M : Addr → Prop) (e : DE) (cs : Cs) (es : List Expr) (x : Xc) (cs' : Cs) : Prop where
  dm : dom cs' = dom cs
  k : ∀ (σ : L2.St) (H : Hp) (W : WX) (Q : List V → Hp → Prop), Takes X W → Sit X.K X.mg M σ H e cs → (∀ cls d H', Sit X.K X.mg M σ H' e cs' → Ext (dom cs) H H' → RX X.K X.mg M H' cls d x → W cls d σ H') → wA X es σ H Q
section
variable {X : Cx} {CX : CXT} {k : Nat} {f : Addr} {sp : Sp} {x m : Str} {p pos apos : Pos} {ex o : Expr} {es : List Expr} {t : TA} {ta : TE}
theorem run_fnRS {pins : List (Addr × Obj)} {σ : L2.St} {H : Hp} {s : Shared} {E : XK} {Q : VK} {us : List Value} {vs : List V} (F : FnR X.prog X.w X.K X.mg X.base CX k f sp) (hr : Room k X.A) (hx : PassesAt CX X σ E) (I : Inv X pins σ H s) (r : Vals vs us) (h : sp vs H Q E) :
    codeAny (model X.prog X.w) X.A (.call (.ref f) ⟨us, []⟩) (fun r s' => match r with | .ok (.ret v) => EP X pins σ Q v s' | .ok _ => False | .error e => X.xe e s') s := by
  refine codeAny_mono (F X.A X.stack s H us vs Q E hr I.env0 r h) fun r s' hq => ?_
  cases r with
  | error e => exact hx pins H s e s' I hq
  | ok fl => cases fl with
    | ret u => exact I.after hq
    | _ => exact False.elim hq
theorem pe_callRS {E : L2.St → XK} (F : FnR X.prog X.w X.K X.mg X.base CX k f sp) (hr : Room k X.A) (hg : Gl X x) (hm : X.mg x = some (.ref f)) (hk : PySem.W.keepIn X.K (.ref f) = true) (hx : ∀ σ, PassesAt CX X σ (E σ)) (ha : PA X (ex :: es) t)
    (hdb : (x == ("__debug__" : Str)) = false) (he : starEach (ex :: es) X.env = (false, eval ex X.env) :: starEach es X.env) (hpl : (backTo pos (starEach es X.env)).any (·.1) = false) :
    PE X (.Call (.Name x p) (ex :: es) [] pos) (fun σ H Q => t σ H fun vs H1 => sp vs H1 Q (E σ)) := by
  refine ⟨fun pins s σ H Q I h => wpAny_Call_Name_kw (ld_glob I hg hm ?_ hdb)⟩
  exact PySem.W.callWith_K (h₀ := X.base) I.ok.mod.kin hk (thn (ha.run pos pins s σ H _ I h) fun us s1 ⟨vs, H1, I1, r, q⟩ => ⟨I1.kIn, wpAny_call (run_fnRS F hr (hx σ) I1 r q)⟩) he hpl
theorem pe_callRS0 {E : L2.St → XK} (F : FnR X.prog X.w X.K X.mg X.base CX k f sp) (hr : Room k X.A) (hg : Gl X x) (hm : X.mg x = some (.ref f)) (hk : PySem.W.keepIn X.K (.ref f) = true) (hx : ∀ σ, PassesAt CX X σ (E σ)) (hdb : (x == ("__debug__" : Str)) = false) :
    PE X (.Call (.Name x p) [] [] pos) (fun σ H Q => sp [] H Q (E σ)) := by
  refine ⟨fun pins s σ H Q I h => wpAny_Call_Name_kw (ld_glob I hg hm ?_ hdb)⟩
  exact PySem.W.callWith_K0 I.kIn hk (wpAny_call (run_fnRS (us := []) F hr (hx σ) I .nil h))
theorem pe_methRS {E : L2.St → XK} {C : Addr} {pl : Sem Bool} (he : PE X o ta) (c : Cls X.K C) (hm : Meth X.K C m f) (F : FnR X.prog X.w X.K X.mg X.base CX k f sp) (hr : Room k X.A) (hx : ∀ σ, PassesAt CX X σ (E σ)) (ha : PA X (ex :: es) t)
    (hst : starEach (ex :: es) X.env = (false, eval ex X.env) :: starEach es X.env) (hpl : (backTo pos (starEach es X.env)).any (·.1) = false)
    (ht : eval (.Call (.Attribute o m apos) (ex :: es) [] pos) X.env = (do
      let ov ← eval o X.env
      standAt apos.atName
      let (f, first) ← holding [ov] (getMethod ov m pl)
      callWith pos f first (backTo pos (starEach (ex :: es) X.env)) (backToKw pos (keywordEach [] X.env)))) :
    PE X (.Call (.Attribute o m apos) (ex :: es) [] pos) (fun σ H Q => ta σ H fun x H1 => ∃ a dx fs, x = .ref a ∧ H1 a = some (.ins C dx fs) ∧ fs.lookup m = none ∧ t σ H1 fun vs H2 => sp (x :: vs) H2 Q (E σ)) := by
  refine ⟨fun pins s σ H Q I h => PySem.W.methodCall_KW (pl := pl) (thn (he.run pins s σ H _ I h) fun u s1 ⟨x, H1, I1, rx, a, dx, fs, ex', ea, l, q⟩ => ?_) ht⟩
  subst ex'
  obtain rfl : u = Value.ref a := rx
  refine getmeth_ok I1 ea c hm l ?_
  exact PySem.W.callWith_K (first := [.ref a]) (h₀ := X.base) I1.ok.mod.kin hm.kp (thn (ha.run pos pins s1 σ H1 _ I1 q) fun us s3 ⟨vs, H2, I3, r, q2⟩ => ⟨I3.kIn, wpAny_call (run_fnRS (us := .ref a :: us) (vs := .ref a :: vs) F hr (hx σ) I3 (.cons rfl r) q2)⟩) hst hpl
end
end Od

set_option Elab.async false
set_option linter.all false
set_option maxRecDepth 100000
set_option maxHeartbeats 4000000
/-! Ox4: calls by single promises: e_.. they give, x_.. they raise. -/
namespace Od
open PySem L2
section
variable {X : Cx} {CX : CXT} {k : Nat} {f : Addr} {sp : Sp} {x m : Str} {p pos apos : Pos} {ex o : Expr} {es : List Expr} {t : TA} {ta : TE} {E : L2.St → XK}
theorem pe_methRS0 {C : Addr} {pl : Sem Bool} (he : PE X o ta) (c : Cls X.K C) (hm : Meth X.K C m f) (F : FnR X.prog X.w X.K X.mg X.base CX k f sp) (hr : Room k X.A) (hx : ∀ σ, PassesAt CX X σ (E σ))
    (ht : eval (.Call (.Attribute o m apos) [] [] pos) X.env = (do
      let ov ← eval o X.env
      standAt apos.atName
      let (f, first) ← holding [ov] (getMethod ov m pl)
      callWith pos f first (backTo pos (starEach [] X.env)) (backToKw pos (keywordEach [] X.env)))) :
    PE X (.Call (.Attribute o m apos) [] [] pos) (fun σ H Q => ta σ H fun x H1 => ∃ a dx fs, x = .ref a ∧ H1 a = some (.ins C dx fs) ∧ fs.lookup m = none ∧ sp [x] H1 Q (E σ)) := by
  refine ⟨fun pins s σ H Q I h => PySem.W.methodCall_KW (pl := pl) (thn (he.run pins s σ H _ I h) fun u s1 ⟨x, H1, I1, rx, a, dx, fs, ex', ea, l, q⟩ => ?_) ht⟩
  subst ex'
  obtain rfl : u = Value.ref a := rx
  refine getmeth_ok I1 ea c hm l ?_
  exact PySem.W.callWith_K0 (first := [.ref a]) I1.kIn hm.kp (wpAny_call (run_fnRS (us := [.ref a]) (vs := [.ref a]) F hr (hx σ) I1 (.cons rfl .nil) q))
theorem pe_cstatS {C g : Addr} {mc : Value} {pl : Sem Bool} (he : PE X o ta) (r : ClX.CRead X.K C mc) (c : CStm X.K C mc m g) (hk : PySem.W.keepIn X.K (.ref g) = true) (F : FnR X.prog X.w X.K X.mg X.base CX k g sp) (hr : Room k X.A) (hx : ∀ σ, PassesAt CX X σ (E σ)) (ha : PA X (ex :: es) t)
    (hst : starEach (ex :: es) X.env = (false, eval ex X.env) :: starEach es X.env) (hpl : (backTo pos (starEach es X.env)).any (·.1) = false)
    (ht : eval (.Call (.Attribute o m apos) (ex :: es) [] pos) X.env = (do
      let ov ← eval o X.env
      standAt apos.atName
      let (f, first) ← holding [ov] (getMethod ov m pl)
      callWith pos f first (backTo pos (starEach (ex :: es) X.env)) (backToKw pos (keywordEach [] X.env)))) :
    PE X (.Call (.Attribute o m apos) (ex :: es) [] pos) (fun σ H Q => ta σ H fun x H1 => x = .ref C ∧ t σ H1 fun vs H2 => sp vs H2 Q (E σ)) := by
  refine ⟨fun pins s σ H Q I h => PySem.W.methodCall_KW (pl := pl) (thn (he.run pins s σ H _ I h) fun u s1 ⟨x, H1, I1, rx, ex', q⟩ => ?_) ht⟩
  subst ex'
  obtain rfl : u = Value.ref C := rx
  refine PySem.W.method_cls I1.kIn r.ga (getcst_ok I1 r c fun s2 I2 => ?_)
  exact PySem.W.callWith_K (first := []) (h₀ := X.base) I2.ok.mod.kin hk (thn (ha.run pos pins s2 σ H1 _ I2 q) fun us s3 ⟨vs, H2, I3, rv, q2⟩ => ⟨I3.kIn, wpAny_call (run_fnRS F hr (hx σ) I3 rv q2)⟩) hst hpl
theorem pe_cstatS0 {C g : Addr} {mc : Value} {pl : Sem Bool} (he : PE X o ta) (r : ClX.CRead X.K C mc) (c : CStm X.K C mc m g) (hk : PySem.W.keepIn X.K (.ref g) = true) (F : FnR X.prog X.w X.K X.mg X.base CX k g sp) (hr : Room k X.A) (hx : ∀ σ, PassesAt CX X σ (E σ))
    (ht : eval (.Call (.Attribute o m apos) [] [] pos) X.env = (do
      let ov ← eval o X.env
      standAt apos.atName
      let (f, first) ← holding [ov] (getMethod ov m pl)
      callWith pos f first (backTo pos (starEach [] X.env)) (backToKw pos (keywordEach [] X.env)))) :
    PE X (.Call (.Attribute o m apos) [] [] pos) (fun σ H Q => ta σ H fun x H1 => x = .ref C ∧ sp [] H1 Q (E σ)) := by
  refine ⟨fun pins s σ H Q I h => PySem.W.methodCall_KW (pl := pl) (thn (he.run pins s σ H _ I h) fun u s1 ⟨x, H1, I1, rx, ex', q⟩ => ?_) ht⟩
  subst ex'
  obtain rfl : u = Value.ref C := rx
  refine PySem.W.method_cls I1.kIn r.ga (getcst_ok I1 r c fun s2 I2 => ?_)
  exact PySem.W.callWith_K0 (first := []) I2.kIn hk (wpAny_call (run_fnRS (us := []) F hr (hx σ) I2 .nil q))
/-- an instance in the making is forgotten where its __init__ raises -/
theorem run_makeRS {pins : List (Addr × Obj)} {σ : L2.St} {H : Hp} {s : Shared} {C : Addr} {Q : VK} {us : List Value} {vs : List V} (Mm : Mk X.K C f) (F : FnR X.prog X.w X.K X.mg X.base CX k f sp) (hr : Room (k + 1) X.A) (hx : PassesAt CX X σ (E σ)) (I : Inv X pins σ H s) (r : Vals vs us)
    (h : ∀ x dx, H x = none → H dx = none → dx ≠ x → sp (V.ref x :: vs) (upd (upd H dx (.own x)) x (.ins C dx [])) (fun v H2 => v = .non ∧ Q (.ref x) H2) (E σ)) : wpAny (model X.prog X.w) X.A (call (.ref C) us) (EP X pins σ Q) X.xe s := by
  have hq := h (s.heap.objs.size + 1) s.heap.objs.size (I.hok.fresh (Nat.le_succ _)) (I.hok.fresh (Nat.le_refl _)) (Nat.ne_of_lt (Nat.lt_succ_self _))
  have I2 := Inv.made (C := C) I
  have r2 : Vals (V.ref (s.heap.objs.size + 1) :: vs) (Value.ref (s.heap.objs.size + 1) :: us) := .cons rfl r
  refine wpAny_call (make_map (f := f) I.kIn Mm.makes Mm.init (beq_iff_eq.mp Mm.fn) (codeAny_mono (F _ X.stack _ _ (Value.ref (s.heap.objs.size + 1) :: us) _ _ (E σ) (hr.make C us []) (I2.env0.make C us []) r2 hq) fun r s' hq' => ?_))
  cases r with
  | error e => exact hx pins _ _ e s' I2 hq'
  | ok fl => cases fl with
    | ret u =>
      obtain ⟨v, H', I3, rv, ev, q3⟩ := I2.after hq'
      subst ev
      exact ⟨rv, ⟨V.ref (s.heap.objs.size + 1), H', I3, rfl, q3⟩⟩
    | _ => exact False.elim hq'
theorem pe_makeRS {C : Addr} (Mm : Mk X.K C f) (F : FnR X.prog X.w X.K X.mg X.base CX k f sp) (hr : Room (k + 1) X.A) (hg : Gl X x) (hm : X.mg x = some (.ref C)) (hx : ∀ σ, PassesAt CX X σ (E σ)) (ha : PA X (ex :: es) t) (hdb : (x == ("__debug__" : Str)) = false)
    (he : starEach (ex :: es) X.env = (false, eval ex X.env) :: starEach es X.env) (hpl : (backTo pos (starEach es X.env)).any (·.1) = false) : PE X (.Call (.Name x p) (ex :: es) [] pos) (fun σ H Q => t σ H fun vs H1 => ∀ xa dx, H1 xa = none → H1 dx = none → dx ≠ xa → sp (V.ref xa :: vs) (upd (upd H1 dx (.own xa)) xa (.ins C dx [])) (fun v H2 => v = .non ∧ Q (.ref xa) H2) (E σ)) := by
  refine ⟨fun pins s σ H Q I h => wpAny_Call_Name_kw (ld_glob I hg hm ?_ hdb)⟩
  exact PySem.W.callWith_K (h₀ := X.base) I.ok.mod.kin Mm.kp (thn (ha.run pos pins s σ H _ I h) fun us s1 ⟨vs, H1, I1, r, q⟩ => ⟨I1.kIn, run_makeRS Mm F hr (hx σ) I1 r q⟩) he hpl
theorem pe_makeRS0 {C : Addr} (Mm : Mk X.K C f) (F : FnR X.prog X.w X.K X.mg X.base CX k f sp) (hr : Room (k + 1) X.A) (hg : Gl X x) (hm : X.mg x = some (.ref C)) (hx : ∀ σ, PassesAt CX X σ (E σ)) (hdb : (x == ("__debug__" : Str)) = false) :
    PE X (.Call (.Name x p) [] [] pos) (fun σ H Q => ∀ xa dx, H xa = none → H dx = none → dx ≠ xa → sp [V.ref xa] (upd (upd H dx (.own xa)) xa (.ins C dx [])) (fun v H2 => v = .non ∧ Q (.ref xa) H2) (E σ)) := by
  refine ⟨fun pins s σ H Q I h => wpAny_Call_Name_kw (ld_glob I hg hm ?_ hdb)⟩
  exact PySem.W.callWith_K0 I.kIn Mm.kp (run_makeRS (us := []) Mm F hr (hx σ) I .nil h)
end
/-- cz within cs1 has become cz' within cs2 -/
structure Sw (cz cz' cs1 cs2 : Cs) : Prop where
  sub : ∀ q ∈ cz, q ∈ cs1
  dm : dom cs2 = dom cs1
  nd : (dom cs1).Nodup → (dom cz).Nodup
  rest : (dom cs1).Nodup → ∀ q ∈ cs2, q ∈ cz' ∨ (q ∈ cs1 ∧ q.1 ∉ dom cz)
theorem sw0 {cs : Cs} : Sw [] [] cs cs := ⟨by simp, rfl, by simp, fun _ q hq => .inr ⟨hq, by simp⟩⟩
theorem sw1 {ad : Addr} {c c' : MC} {cs1 cs2 : Cs} (u : Upd1 ad c c' cs1 cs2) : Sw [(ad, c)] [(ad, c')] cs1 cs2 :=
  ⟨by simpa using u.mem, u.dm, by simp, fun nd q hq => (u.of nd q hq).elim (fun z => .inl (by simp [z])) fun z => .inr ⟨z.1, by simpa using z.2⟩⟩
/-- all of them -/
theorem swA {cs cs' : Cs} (h : dom cs' = dom cs) : Sw cs cs' cs cs' := ⟨fun _ h => h, h, fun h => h, fun _ q hq => .inl hq⟩
theorem Upd1.refl {ad : Addr} {c : MC} : ∀ {cs : Cs}, (ad, c) ∈ cs → Upd1 ad c c cs cs
  | (b, d) :: r, h => by
    rcases List.mem_cons.mp h with e | e
    · cases e; exact .here
    · exact .there (Upd1.refl e)
section
variable {X : Cx} {M : Addr → Prop} {e : DE} {cs cs1 cs2 cs3 : Cs} {pos p pos' apos : Pos} {a b c ex o : Expr} {es : List Expr} {d y z : D} {ds gs args : List D} {n m cn : Str} {ns : List Str} {k j : Nat} {cz cz' : Cs} {x : Xc}
theorem out_use {σ : L2.St} {H : Hp} {Q : VK} {E : XK} {vs : List V} (S : Sit X.K X.mg M σ H e cs1) (r : Rs X.K X.mg M H vs args) (w : Sw cz cz' cs1 cs2)
    (k : ∀ v H', Sit X.K X.mg M σ H' e cs2 → Ext (dom cs1) H H' → R X.K X.mg M H' v d → Q v H') : outSp X.K X.mg args cz (.ok d) cz' vs H Q E := by
  refine ⟨M, S.mt, r, fun q hq => S.cel q (w.sub q hq), w.nd S.nd, fun v H' mt xt cl rv => ?_⟩
  have xt' : Ext (dom cs1) H H' := xt.mono fun a ha => by
    obtain ⟨q, hq, rfl⟩ := List.mem_map.mp ha
    exact List.mem_map_of_mem (w.sub q hq)
  refine k v H' (S.step w.dm xt' mt fun q hq => ?_) xt' rv
  rcases w.rest S.nd q hq with h | ⟨h, hn⟩
  · exact cl q h
  · exact ⟨(S.cel q h).1, (S.cel q h).2.ext (S.keeps xt') (fun _ n _ => n) fun u hu => xt _ u hu hn⟩
theorem err_use {σ : L2.St} {H : Hp} {Q : VK} {E : XK} {vs : List V} (S : Sit X.K X.mg M σ H e cs1) (r : Rs X.K X.mg M H vs args) (w : Sw cz cz' cs1 cs2)
    (k : ∀ cls d H', Sit X.K X.mg M σ H' e cs2 → Ext (dom cs1) H H' → RX X.K X.mg M H' cls d x → E cls d H') : outSp X.K X.mg args cz (.err x) cz' vs H Q E := by
  refine ⟨M, S.mt, r, fun q hq => S.cel q (w.sub q hq), w.nd S.nd, fun cls d H' mt xt cl rv => ?_⟩
  have xt' : Ext (dom cs1) H H' := xt.mono fun a ha => by
    obtain ⟨q, hq, rfl⟩ := List.mem_map.mp ha
    exact List.mem_map_of_mem (w.sub q hq)
  refine k cls d H' (S.step w.dm xt' mt fun q hq => ?_) xt' rv
  rcases w.rest S.nd q hq with h | ⟨h, hn⟩
  · exact cl q h
  · exact ⟨(S.cel q h).1, (S.cel q h).2.ext (S.keeps xt') (fun _ n _ => n) fun u hu => xt _ u hu hn⟩
/-- a maker's -/
theorem mak_ke {H : Hp} {xa dx C : Addr} (hx : H xa = none) (hdx : H dx = none) : ∀ a o, H a = some o → upd (upd H dx (.own xa)) xa (.ins C dx []) a = some o := fun a o h => by
  rw [upd_ne (ne_of_none h hx), upd_ne (ne_of_none h hdx)]; exact h
theorem mak_use {σ : L2.St} {H : Hp} {Q : VK} {C xa dx : Addr} {vs : List V} {E : XK} (hm : X.mg cn = some (.ref C)) (S : Sit X.K X.mg M σ H e cs1) (r : Rs X.K X.mg M H vs args) (hx : H xa = none) (hdx : H dx = none) (hne : dx ≠ xa)
    (k : ∀ v H', Sit X.K X.mg M σ H' e cs1 → Ext [] H H' → R X.K X.mg M H' v (.obj cn ns ds) → Q v H') : makSp X.K X.mg cn args (.ok ns ds) (V.ref xa :: vs) (upd (upd H dx (.own xa)) xa (.ins C dx [])) (fun v H2 => v = .non ∧ Q (.ref xa) H2) E := by
  have ke := mak_ke (C := C) hx hdx
  refine ⟨M, xa, C, dx, vs, rfl, hm, upd_same, new_m S.mt hx, fun a ma => ?_, Rs.ext (fun a o _ h => ke a o h) (fun a n h z => z.elim n fun z => h (z ▸ hx)) _ r, fun H' mt xt ro => ⟨rfl, ?_⟩⟩
  · cases q : H a with
    | none => exact absurd q (S.mt a ma)
    | some o => rw [ke a o q]; simp
  have xt' : Ext [] H H' := fun a o h _ => xt a o (ke a o h) (by simpa using ne_of_none h hx)
  exact k _ H' (S.ex xt') xt' ro
theorem mak_err {σ : L2.St} {H : Hp} {Q : VK} {C xa dx : Addr} {vs : List V} {E : XK} (hm : X.mg cn = some (.ref C)) (S : Sit X.K X.mg M σ H e cs1) (r : Rs X.K X.mg M H vs args) (hx : H xa = none) (hdx : H dx = none) (hne : dx ≠ xa)
    (k : ∀ cls d H', Sit X.K X.mg M σ H' e cs1 → Ext [] H H' → RX X.K X.mg M H' cls d x → E cls d H') : makSp X.K X.mg cn args (.err x) (V.ref xa :: vs) (upd (upd H dx (.own xa)) xa (.ins C dx [])) Q E := by
  have ke := mak_ke (C := C) hx hdx
  refine ⟨M, xa, C, dx, vs, rfl, hm, upd_same, new_m S.mt hx, fun a ma => ?_, Rs.ext (fun a o _ h => ke a o h) (fun a n h z => z.elim n fun z => h (z ▸ hx)) _ r, fun cls d H' mt xt ro => ?_⟩
  · cases q : H a with
    | none => exact absurd q (S.mt a ma)
    | some o => rw [ke a o q]; simp
  have xt' : Ext [] H H' := fun a o h _ => xt a o (ke a o h) (by simpa using ne_of_none h hx)
  exact k cls d H' (S.ex xt') xt' ro
theorem e_fn (F : Fn X.prog X.w X.K X.mg X.base n k ds cz (.ok d) cz') (hr : Room k X.A) (ha : EA X M e cs (a :: es) ds cs1) (w : Sw cz cz' cs1 cs2) (hg : Gl X n := by rfl) (hdb : (n == ("__debug__" : Str)) = false := by decide)
    (he : starEach (a :: es) X.env = (false, eval a X.env) :: starEach es X.env := by rfl) (hpl : (backTo pos (starEach es X.env)).any (·.1) = false := by rfl) : EE X M e cs (.Call (.Name n p) (a :: es) [] pos) d cs2 where
  dm := w.dm.trans ha.dm
  k := fun σ H Q S k => by
    obtain ⟨f, hm, hk, F⟩ := F.ex
    exact we_of (pe_callR (E := E0) F hr hg hm hk passL pa_w hdb he hpl) (ha.k σ H _ S fun vs H1 S1 x1 r1 => out_use S1 r1 w fun v H' S2 x2 r2 => k v H' S2 (x1.trans (by rw [← ha.dm]; exact x2)) r2)
theorem x_fn (F : Fn X.prog X.w X.K X.mg X.base n k ds cz (.err x) cz') (hr : Room k X.A) (ha : EA X M e cs (a :: es) ds cs1) (w : Sw cz cz' cs1 cs2) (hg : Gl X n := by rfl) (hdb : (n == ("__debug__" : Str)) = false := by decide)
    (he : starEach (a :: es) X.env = (false, eval a X.env) :: starEach es X.env := by rfl) (hpl : (backTo pos (starEach es X.env)).any (·.1) = false := by rfl) : EX X M e cs (.Call (.Name n p) (a :: es) [] pos) x cs2 where
  dm := w.dm.trans ha.dm
  k := fun σ H W Q tk S k => by
    obtain ⟨f, hm, hk, F⟩ := F.ex
    exact we_of (pe_callRS (E := WE W) F hr hg hm hk (passAt tk) pa_w hdb he hpl) (ha.k σ H _ S fun vs H1 S1 x1 r1 => err_use S1 r1 w fun cls d H' S2 x2 r2 => k cls d H' S2 (x1.trans (by rw [← ha.dm]; exact x2)) r2)
theorem e_fn0 (F : Fn X.prog X.w X.K X.mg X.base n k [] cz (.ok d) cz') (hr : Room k X.A) (w : Sw cz cz' cs cs2) (hg : Gl X n := by rfl) (hdb : (n == ("__debug__" : Str)) = false := by decide) : EE X M e cs (.Call (.Name n p) [] [] pos) d cs2 where
  dm := w.dm
  k := fun σ H Q S k => by
    obtain ⟨f, hm, hk, F⟩ := F.ex
    exact we_of (pe_callR0 (E := E0) F hr hg hm hk passL hdb) (out_use S Rs.nil w k)
theorem x_fn0 (F : Fn X.prog X.w X.K X.mg X.base n k [] cz (.err x) cz') (hr : Room k X.A) (w : Sw cz cz' cs cs2) (hg : Gl X n := by rfl) (hdb : (n == ("__debug__" : Str)) = false := by decide) : EX X M e cs (.Call (.Name n p) [] [] pos) x cs2 where
  dm := w.dm
  k := fun σ H W Q tk S k => by
    obtain ⟨f, hm, hk, F⟩ := F.ex
    exact we_of (pe_callRS0 (E := WE W) F hr hg hm hk (passAt tk) hdb) (err_use S Rs.nil w k)
theorem e_me {pl : Sem Bool} (F : Me X.prog X.w X.K X.mg X.base cn m k (.obj cn ns gs :: ds) cz (.ok d) cz') (hr : Room k X.A) (ho : EE X M e cs o (.obj cn ns gs) cs1) (ha : EA X M e cs1 (a :: es) ds cs2) (w : Sw cz cz' cs2 cs3) (hnm : m ∉ ns := by decide +kernel)
    (hst : starEach (a :: es) X.env = (false, eval a X.env) :: starEach es X.env := by rfl) (hpl : (backTo pos (starEach es X.env)).any (·.1) = false := by rfl)
    (ht : eval (.Call (.Attribute o m apos) (a :: es) [] pos) X.env = (do
      let ov ← eval o X.env
      standAt apos.atName
      let (f, first) ← holding [ov] (getMethod ov m pl)
      callWith pos f first (backTo pos (starEach (a :: es) X.env)) (backToKw pos (keywordEach [] X.env))) := by rfl) : EE X M e cs (.Call (.Attribute o m apos) (a :: es) [] pos) d cs3 where
  dm := w.dm.trans (ha.dm.trans ho.dm)
  k := fun σ H Q S k => by
    obtain ⟨C, f, hm, hc, hmt, F⟩ := F.ex
    refine we_of (pe_methR (E := E0) pe_w hc hmt F hr passL pa_w hst hpl ht) (ho.k σ H _ S fun v H1 S1 x1 r1 => ?_)
    · have r1' := r1
      obtain ⟨ad, C', dx, xs, rfl, _, hm', hob, hl, rs⟩ := r_obj r1
      rw [hm] at hm'; cases hm'
      refine ⟨ad, dx, _, rfl, hob, zip_lookup_none hnm, ha.k σ H1 _ S1 fun vs H2 S2 x2 r2 => out_use S2 (.cons (S1.r x2 r1') r2) w fun v H' S3 x3 r3 => k v H' S3 ((x1.trans (by rw [← ho.dm]; exact x2)).trans (by rw [← ho.dm, ← ha.dm]; exact x3)) r3⟩
theorem e_me0 {pl : Sem Bool} (F : Me X.prog X.w X.K X.mg X.base cn m k [.obj cn ns gs] cz (.ok d) cz') (hr : Room k X.A) (ho : EE X M e cs o (.obj cn ns gs) cs1) (w : Sw cz cz' cs1 cs3) (hnm : m ∉ ns := by decide +kernel)
    (ht : eval (.Call (.Attribute o m apos) [] [] pos) X.env = (do
      let ov ← eval o X.env
      standAt apos.atName
      let (f, first) ← holding [ov] (getMethod ov m pl)
      callWith pos f first (backTo pos (starEach [] X.env)) (backToKw pos (keywordEach [] X.env))) := by rfl) : EE X M e cs (.Call (.Attribute o m apos) [] [] pos) d cs3 where
  dm := w.dm.trans ho.dm
  k := fun σ H Q S k => by
    obtain ⟨C, f, hm, hc, hmt, F⟩ := F.ex
    refine we_of (pe_methR0 (E := E0) pe_w hc hmt F hr passL ht) (ho.k σ H _ S fun v H1 S1 x1 r1 => ?_)
    · have r1' := r1
      obtain ⟨ad, C', dx, xs, rfl, _, hm', hob, hl, rs⟩ := r_obj r1
      rw [hm] at hm'; cases hm'
      refine ⟨ad, dx, _, rfl, hob, zip_lookup_none hnm, out_use S1 (.cons r1' .nil) w fun v H' S3 x3 r3 => k v H' S3 (x1.trans (by rw [← ho.dm]; exact x3)) r3⟩
theorem x_me {pl : Sem Bool} (F : Me X.prog X.w X.K X.mg X.base cn m k (.obj cn ns gs :: ds) cz (.err x) cz') (hr : Room k X.A) (ho : EE X M e cs o (.obj cn ns gs) cs1) (ha : EA X M e cs1 (a :: es) ds cs2) (w : Sw cz cz' cs2 cs3) (hnm : m ∉ ns := by decide +kernel)
    (hst : starEach (a :: es) X.env = (false, eval a X.env) :: starEach es X.env := by rfl) (hpl : (backTo pos (starEach es X.env)).any (·.1) = false := by rfl)
    (ht : eval (.Call (.Attribute o m apos) (a :: es) [] pos) X.env = (do
      let ov ← eval o X.env
      standAt apos.atName
      let (f, first) ← holding [ov] (getMethod ov m pl)
      callWith pos f first (backTo pos (starEach (a :: es) X.env)) (backToKw pos (keywordEach [] X.env))) := by rfl) : EX X M e cs (.Call (.Attribute o m apos) (a :: es) [] pos) x cs3 where
  dm := w.dm.trans (ha.dm.trans ho.dm)
  k := fun σ H W Q tk S k => by
    obtain ⟨C, f, hm, hc, hmt, F⟩ := F.ex
    refine we_of (pe_methRS (E := WE W) pe_w hc hmt F hr (passAt tk) pa_w hst hpl ht) (ho.k σ H _ S fun v H1 S1 x1 r1 => ?_)
    · have r1' := r1
      obtain ⟨ad, C', dx, xs, rfl, _, hm', hob, hl, rs⟩ := r_obj r1
      rw [hm] at hm'; cases hm'
      refine ⟨ad, dx, _, rfl, hob, zip_lookup_none hnm, ha.k σ H1 _ S1 fun vs H2 S2 x2 r2 => err_use S2 (.cons (S1.r x2 r1') r2) w fun cls d H' S3 x3 r3 => k cls d H' S3 ((x1.trans (by rw [← ho.dm]; exact x2)).trans (by rw [← ho.dm, ← ha.dm]; exact x3)) r3⟩
theorem x_me0 {pl : Sem Bool} (F : Me X.prog X.w X.K X.mg X.base cn m k [.obj cn ns gs] cz (.err x) cz') (hr : Room k X.A) (ho : EE X M e cs o (.obj cn ns gs) cs1) (w : Sw cz cz' cs1 cs3) (hnm : m ∉ ns := by decide +kernel)
    (ht : eval (.Call (.Attribute o m apos) [] [] pos) X.env = (do
      let ov ← eval o X.env
      standAt apos.atName
      let (f, first) ← holding [ov] (getMethod ov m pl)
      callWith pos f first (backTo pos (starEach [] X.env)) (backToKw pos (keywordEach [] X.env))) := by rfl) : EX X M e cs (.Call (.Attribute o m apos) [] [] pos) x cs3 where
  dm := w.dm.trans ho.dm
  k := fun σ H W Q tk S k => by
    obtain ⟨C, f, hm, hc, hmt, F⟩ := F.ex
    refine we_of (pe_methRS0 (E := WE W) pe_w hc hmt F hr (passAt tk) ht) (ho.k σ H _ S fun v H1 S1 x1 r1 => ?_)
    · have r1' := r1
      obtain ⟨ad, C', dx, xs, rfl, _, hm', hob, hl, rs⟩ := r_obj r1
      rw [hm] at hm'; cases hm'
      refine ⟨ad, dx, _, rfl, hob, zip_lookup_none hnm, err_use S1 (.cons r1' .nil) w fun cls d H' S3 x3 r3 => k cls d H' S3 (x1.trans (by rw [← ho.dm]; exact x3)) r3⟩
theorem e_mec {ad : Addr} {pl : Sem Bool} (F : Me X.prog X.w X.K X.mg X.base cn m k (.ref ad :: ds) cz (.ok d) cz') (hr : Room k X.A) (ho : EE X M e cs o (.ref ad) cs1) (hin : (ad, MC.obj cn ns gs) ∈ cs1) (ha : EA X M e cs1 (a :: es) ds cs2) (w : Sw cz cz' cs2 cs3) (hnm : m ∉ ns := by decide +kernel)
    (hst : starEach (a :: es) X.env = (false, eval a X.env) :: starEach es X.env := by rfl) (hpl : (backTo pos (starEach es X.env)).any (·.1) = false := by rfl)
    (ht : eval (.Call (.Attribute o m apos) (a :: es) [] pos) X.env = (do
      let ov ← eval o X.env
      standAt apos.atName
      let (f, first) ← holding [ov] (getMethod ov m pl)
      callWith pos f first (backTo pos (starEach (a :: es) X.env)) (backToKw pos (keywordEach [] X.env))) := by rfl) : EE X M e cs (.Call (.Attribute o m apos) (a :: es) [] pos) d cs3 where
  dm := w.dm.trans (ha.dm.trans ho.dm)
  k := fun σ H Q S k => by
    obtain ⟨C, f, hm, hc, hmt, F⟩ := F.ex
    refine we_of (pe_methR (E := E0) pe_w hc hmt F hr passL pa_w hst hpl ht) (ho.k σ H _ S fun v H1 S1 x1 r1 => ?_)
    · simp only [R] at r1
      subst r1
      obtain ⟨_, C', dx, xs, hm', hob, hl, rs⟩ := S1.cel _ hin
      rw [hm] at hm'; cases hm'
      refine ⟨ad, dx, _, rfl, hob, zip_lookup_none hnm, ha.k σ H1 _ S1 fun vs H2 S2 x2 r2 => out_use S2 (.cons (by simp [R]) r2) w fun v H' S3 x3 r3 => k v H' S3 ((x1.trans (by rw [← ho.dm]; exact x2)).trans (by rw [← ho.dm, ← ha.dm]; exact x3)) r3⟩
theorem e_mec0 {ad : Addr} {pl : Sem Bool} (F : Me X.prog X.w X.K X.mg X.base cn m k [.ref ad] cz (.ok d) cz') (hr : Room k X.A) (ho : EE X M e cs o (.ref ad) cs1) (hin : (ad, MC.obj cn ns gs) ∈ cs1) (w : Sw cz cz' cs1 cs3) (hnm : m ∉ ns := by decide +kernel)
    (ht : eval (.Call (.Attribute o m apos) [] [] pos) X.env = (do
      let ov ← eval o X.env
      standAt apos.atName
      let (f, first) ← holding [ov] (getMethod ov m pl)
      callWith pos f first (backTo pos (starEach [] X.env)) (backToKw pos (keywordEach [] X.env))) := by rfl) : EE X M e cs (.Call (.Attribute o m apos) [] [] pos) d cs3 where
  dm := w.dm.trans ho.dm
  k := fun σ H Q S k => by
    obtain ⟨C, f, hm, hc, hmt, F⟩ := F.ex
    refine we_of (pe_methR0 (E := E0) pe_w hc hmt F hr passL ht) (ho.k σ H _ S fun v H1 S1 x1 r1 => ?_)
    · simp only [R] at r1
      subst r1
      obtain ⟨_, C', dx, xs, hm', hob, hl, rs⟩ := S1.cel _ hin
      rw [hm] at hm'; cases hm'
      refine ⟨ad, dx, _, rfl, hob, zip_lookup_none hnm, out_use S1 (.cons (by simp [R]) .nil) w fun v H' S3 x3 r3 => k v H' S3 (x1.trans (by rw [← ho.dm]; exact x3)) r3⟩
theorem x_mec {ad : Addr} {pl : Sem Bool} (F : Me X.prog X.w X.K X.mg X.base cn m k (.ref ad :: ds) cz (.err x) cz') (hr : Room k X.A) (ho : EE X M e cs o (.ref ad) cs1) (hin : (ad, MC.obj cn ns gs) ∈ cs1) (ha : EA X M e cs1 (a :: es) ds cs2) (w : Sw cz cz' cs2 cs3) (hnm : m ∉ ns := by decide +kernel)
    (hst : starEach (a :: es) X.env = (false, eval a X.env) :: starEach es X.env := by rfl) (hpl : (backTo pos (starEach es X.env)).any (·.1) = false := by rfl)
    (ht : eval (.Call (.Attribute o m apos) (a :: es) [] pos) X.env = (do
      let ov ← eval o X.env
      standAt apos.atName
      let (f, first) ← holding [ov] (getMethod ov m pl)
      callWith pos f first (backTo pos (starEach (a :: es) X.env)) (backToKw pos (keywordEach [] X.env))) := by rfl) : EX X M e cs (.Call (.Attribute o m apos) (a :: es) [] pos) x cs3 where
  dm := w.dm.trans (ha.dm.trans ho.dm)
  k := fun σ H W Q tk S k => by
    obtain ⟨C, f, hm, hc, hmt, F⟩ := F.ex
    refine we_of (pe_methRS (E := WE W) pe_w hc hmt F hr (passAt tk) pa_w hst hpl ht) (ho.k σ H _ S fun v H1 S1 x1 r1 => ?_)
    · simp only [R] at r1
      subst r1
      obtain ⟨_, C', dx, xs, hm', hob, hl, rs⟩ := S1.cel _ hin
      rw [hm] at hm'; cases hm'
      refine ⟨ad, dx, _, rfl, hob, zip_lookup_none hnm, ha.k σ H1 _ S1 fun vs H2 S2 x2 r2 => err_use S2 (.cons (by simp [R]) r2) w fun cls d H' S3 x3 r3 => k cls d H' S3 ((x1.trans (by rw [← ho.dm]; exact x2)).trans (by rw [← ho.dm, ← ha.dm]; exact x3)) r3⟩
theorem x_mec0 {ad : Addr} {pl : Sem Bool} (F : Me X.prog X.w X.K X.mg X.base cn m k [.ref ad] cz (.err x) cz') (hr : Room k X.A) (ho : EE X M e cs o (.ref ad) cs1) (hin : (ad, MC.obj cn ns gs) ∈ cs1) (w : Sw cz cz' cs1 cs3) (hnm : m ∉ ns := by decide +kernel)
    (ht : eval (.Call (.Attribute o m apos) [] [] pos) X.env = (do
      let ov ← eval o X.env
      standAt apos.atName
      let (f, first) ← holding [ov] (getMethod ov m pl)
      callWith pos f first (backTo pos (starEach [] X.env)) (backToKw pos (keywordEach [] X.env))) := by rfl) : EX X M e cs (.Call (.Attribute o m apos) [] [] pos) x cs3 where
  dm := w.dm.trans ho.dm
  k := fun σ H W Q tk S k => by
    obtain ⟨C, f, hm, hc, hmt, F⟩ := F.ex
    refine we_of (pe_methRS0 (E := WE W) pe_w hc hmt F hr (passAt tk) ht) (ho.k σ H _ S fun v H1 S1 x1 r1 => ?_)
    · simp only [R] at r1
      subst r1
      obtain ⟨_, C', dx, xs, hm', hob, hl, rs⟩ := S1.cel _ hin
      rw [hm] at hm'; cases hm'
      refine ⟨ad, dx, _, rfl, hob, zip_lookup_none hnm, err_use S1 (.cons (by simp [R]) .nil) w fun cls d H' S3 x3 r3 => k cls d H' S3 (x1.trans (by rw [← ho.dm]; exact x3)) r3⟩
theorem e_sm {pl : Sem Bool} (F : Sm X.prog X.w X.K X.mg X.base cn m k ds cz (.ok d) cz') (hr : Room k X.A) (ha : EA X M e cs (a :: es) ds cs1) (w : Sw cz cz' cs1 cs2) (hg : Gl X cn := by rfl) (hdb : (cn == ("__debug__" : Str)) = false := by decide)
    (hst : starEach (a :: es) X.env = (false, eval a X.env) :: starEach es X.env := by rfl) (hpl : (backTo pos (starEach es X.env)).any (·.1) = false := by rfl)
    (ht : eval (.Call (.Attribute (.Name cn p) m apos) (a :: es) [] pos) X.env = (do
      let ov ← eval (.Name cn p) X.env
      standAt apos.atName
      let (f, first) ← holding [ov] (getMethod ov m pl)
      callWith pos f first (backTo pos (starEach (a :: es) X.env)) (backToKw pos (keywordEach [] X.env))) := by rfl) : EE X M e cs (.Call (.Attribute (.Name cn p) m apos) (a :: es) [] pos) d cs2 where
  dm := w.dm.trans ha.dm
  k := fun σ H Q S k => by
    obtain ⟨C, mc, g, hm, hrd, hv, hk, F⟩ := F.ex
    exact we_of (pe_cstat (E := E0) (pe_glob (v := .ref C) hg hm rfl hdb) hrd hv hk F hr passL pa_w hst hpl ht) ⟨rfl, ha.k σ H _ S fun vs H1 S1 x1 r1 => out_use S1 r1 w fun v H' S2 x2 r2 => k v H' S2 (x1.trans (by rw [← ha.dm]; exact x2)) r2⟩
theorem e_sm0 {pl : Sem Bool} (F : Sm X.prog X.w X.K X.mg X.base cn m k [] cz (.ok d) cz') (hr : Room k X.A) (w : Sw cz cz' cs cs2) (hg : Gl X cn := by rfl) (hdb : (cn == ("__debug__" : Str)) = false := by decide)
    (ht : eval (.Call (.Attribute (.Name cn p) m apos) [] [] pos) X.env = (do
      let ov ← eval (.Name cn p) X.env
      standAt apos.atName
      let (f, first) ← holding [ov] (getMethod ov m pl)
      callWith pos f first (backTo pos (starEach [] X.env)) (backToKw pos (keywordEach [] X.env))) := by rfl) : EE X M e cs (.Call (.Attribute (.Name cn p) m apos) [] [] pos) d cs2 where
  dm := w.dm
  k := fun σ H Q S k => by
    obtain ⟨C, mc, g, hm, hrd, hv, hk, F⟩ := F.ex
    exact we_of (pe_cstat0 (E := E0) (pe_glob (v := .ref C) hg hm rfl hdb) hrd hv hk F hr passL ht) ⟨rfl, out_use S Rs.nil w k⟩
theorem x_sm {pl : Sem Bool} (F : Sm X.prog X.w X.K X.mg X.base cn m k ds cz (.err x) cz') (hr : Room k X.A) (ha : EA X M e cs (a :: es) ds cs1) (w : Sw cz cz' cs1 cs2) (hg : Gl X cn := by rfl) (hdb : (cn == ("__debug__" : Str)) = false := by decide)
    (hst : starEach (a :: es) X.env = (false, eval a X.env) :: starEach es X.env := by rfl) (hpl : (backTo pos (starEach es X.env)).any (·.1) = false := by rfl)
    (ht : eval (.Call (.Attribute (.Name cn p) m apos) (a :: es) [] pos) X.env = (do
      let ov ← eval (.Name cn p) X.env
      standAt apos.atName
      let (f, first) ← holding [ov] (getMethod ov m pl)
      callWith pos f first (backTo pos (starEach (a :: es) X.env)) (backToKw pos (keywordEach [] X.env))) := by rfl) : EX X M e cs (.Call (.Attribute (.Name cn p) m apos) (a :: es) [] pos) x cs2 where
  dm := w.dm.trans ha.dm
  k := fun σ H W Q tk S k => by
    obtain ⟨C, mc, g, hm, hrd, hv, hk, F⟩ := F.ex
    exact we_of (pe_cstatS (E := WE W) (pe_glob (v := .ref C) hg hm rfl hdb) hrd hv hk F hr (passAt tk) pa_w hst hpl ht) ⟨rfl, ha.k σ H _ S fun vs H1 S1 x1 r1 => err_use S1 r1 w fun cls d H' S2 x2 r2 => k cls d H' S2 (x1.trans (by rw [← ha.dm]; exact x2)) r2⟩
theorem x_sm0 {pl : Sem Bool} (F : Sm X.prog X.w X.K X.mg X.base cn m k [] cz (.err x) cz') (hr : Room k X.A) (w : Sw cz cz' cs cs2) (hg : Gl X cn := by rfl) (hdb : (cn == ("__debug__" : Str)) = false := by decide)
    (ht : eval (.Call (.Attribute (.Name cn p) m apos) [] [] pos) X.env = (do
      let ov ← eval (.Name cn p) X.env
      standAt apos.atName
      let (f, first) ← holding [ov] (getMethod ov m pl)
      callWith pos f first (backTo pos (starEach [] X.env)) (backToKw pos (keywordEach [] X.env))) := by rfl) : EX X M e cs (.Call (.Attribute (.Name cn p) m apos) [] [] pos) x cs2 where
  dm := w.dm
  k := fun σ H W Q tk S k => by
    obtain ⟨C, mc, g, hm, hrd, hv, hk, F⟩ := F.ex
    exact we_of (pe_cstatS0 (E := WE W) (pe_glob (v := .ref C) hg hm rfl hdb) hrd hv hk F hr (passAt tk) ht) ⟨rfl, err_use S Rs.nil w k⟩
theorem e_ma (F : Ma X.prog X.w X.K X.mg X.base cn k ds (.ok ns gs)) (hr : Room (k + 1) X.A) (ha : EA X M e cs (a :: es) ds cs1) (hg : Gl X cn := by rfl) (hdb : (cn == ("__debug__" : Str)) = false := by decide)
    (he : starEach (a :: es) X.env = (false, eval a X.env) :: starEach es X.env := by rfl) (hpl : (backTo pos (starEach es X.env)).any (·.1) = false := by rfl) : EE X M e cs (.Call (.Name cn p) (a :: es) [] pos) (.obj cn ns gs) cs1 where
  dm := ha.dm
  k := fun σ H Q S k => by
    obtain ⟨C, f, hm, hmk, F⟩ := F.ex
    exact we_of (StX.pe_makeR (E := E0) hmk F hr hg hm passL pa_w hdb he hpl) (ha.k σ H _ S fun vs H1 S1 x1 r1 xa dx hx hdx hne => mak_use hm S1 r1 hx hdx hne fun v H' S2 x2 r2 => k v H' S2 (x1.trans (x2.mono (by simp))) r2)
theorem e_ma0 (F : Ma X.prog X.w X.K X.mg X.base cn k [] (.ok ns gs)) (hr : Room (k + 1) X.A) (hg : Gl X cn := by rfl) (hdb : (cn == ("__debug__" : Str)) = false := by decide) : EE X M e cs (.Call (.Name cn p) [] [] pos) (.obj cn ns gs) cs where
  dm := rfl
  k := fun σ H Q S k => by
    obtain ⟨C, f, hm, hmk, F⟩ := F.ex
    exact we_of (pe_makeR0 (E := E0) hmk F hr hg hm passL hdb) (fun xa dx hx hdx hne => mak_use hm S Rs.nil hx hdx hne fun v H' S2 x2 r2 => k v H' S2 (x2.mono (by simp)) r2)
theorem x_ma (F : Ma X.prog X.w X.K X.mg X.base cn k ds (.err x)) (hr : Room (k + 1) X.A) (ha : EA X M e cs (a :: es) ds cs1) (hg : Gl X cn := by rfl) (hdb : (cn == ("__debug__" : Str)) = false := by decide)
    (he : starEach (a :: es) X.env = (false, eval a X.env) :: starEach es X.env := by rfl) (hpl : (backTo pos (starEach es X.env)).any (·.1) = false := by rfl) : EX X M e cs (.Call (.Name cn p) (a :: es) [] pos) x cs1 where
  dm := ha.dm
  k := fun σ H W Q tk S k => by
    obtain ⟨C, f, hm, hmk, F⟩ := F.ex
    exact we_of (pe_makeRS (E := WE W) hmk F hr hg hm (passAt tk) pa_w hdb he hpl) (ha.k σ H _ S fun vs H1 S1 x1 r1 xa dx hx hdx hne => mak_err hm S1 r1 hx hdx hne fun cls d H' S2 x2 r2 => k cls d H' S2 (x1.trans (x2.mono (by simp))) r2)
theorem x_ma0 (F : Ma X.prog X.w X.K X.mg X.base cn k [] (.err x)) (hr : Room (k + 1) X.A) (hg : Gl X cn := by rfl) (hdb : (cn == ("__debug__" : Str)) = false := by decide) : EX X M e cs (.Call (.Name cn p) [] [] pos) x cs where
  dm := rfl
  k := fun σ H W Q tk S k => by
    obtain ⟨C, f, hm, hmk, F⟩ := F.ex
    exact we_of (pe_makeRS0 (E := WE W) hmk F hr hg hm (passAt tk) hdb) (fun xa dx hx hdx hne => mak_err hm S Rs.nil hx hdx hne fun cls d H' S2 x2 r2 => k cls d H' S2 (x2.mono (by simp)) r2)
end
end Od

set_option Elab.async false
set_option linter.all false
set_option maxRecDepth 100000
set_option maxHeartbeats 4000000
/-! Ox5: errors pass through expressions and statements; bodies that may raise. -/
namespace Od
open PySem L2
section
variable {X : Cx} {M : Addr → Prop} {e : DE} {cs cs1 cs2 cs3 : Cs} {pos p pos' apos : Pos} {a b c ex o : Expr} {es : List Expr} {d y z : D} {ds gs args : List D} {n m cn : Str} {ns : List Str} {k j : Nat} {cz cz' : Cs} {x : Xc}
theorem xa_here (ha : EX X M e cs a x cs1) (hs : starEach (a :: es) X.env = (false, eval a X.env) :: starEach es X.env := by rfl) : XA X M e cs (a :: es) x cs1 :=
  ⟨ha.dm, fun σ H W Q tk S k => wa_of (pa_cons pe_w pa_w hs) (ha.k σ H W _ tk S k)⟩
theorem xa_there (ha : EE X M e cs a d cs1) (hr : XA X M e cs1 es x cs2) (hs : starEach (a :: es) X.env = (false, eval a X.env) :: starEach es X.env := by rfl) : XA X M e cs (a :: es) x cs2 where
  dm := hr.dm.trans ha.dm
  k := fun σ H W Q tk S k => wa_of (pa_cons pe_w pa_w hs) (ha.k σ H _ S fun v H1 S1 x1 r1 => hr.k σ H1 W _ tk S1 fun cls dd H2 S2 x2 r2 => k cls dd H2 S2 (x1.trans (by rw [← ha.dm]; exact x2)) r2)
theorem x_un {op : UnaryOp} (hx : EX X M e cs a x cs1) {r} (ho : UnR X (unaryOp op) r) : EX X M e cs (.UnaryOp op a pos) x cs1 := ⟨hx.dm, fun σ H W Q tk S k => we_of (pe_un ho pe_w) (hx.k σ H W _ tk S k)⟩
theorem x_bin1 {op : Operator} {r} (ho : OpR X (binaryOp op) r) (hx : EX X M e cs a x cs1) : EX X M e cs (.BinOp a op b pos) x cs1 := ⟨hx.dm, fun σ H W Q tk S k => we_of (pe_op ho pe_w pe_w) (hx.k σ H W _ tk S k)⟩
theorem x_bin2 {op : Operator} {r} (ho : OpR X (binaryOp op) r) (ha : EE X M e cs a d cs1) (hx : EX X M e cs1 b x cs2) : EX X M e cs (.BinOp a op b pos) x cs2 where
  dm := hx.dm.trans ha.dm
  k := fun σ H W Q tk S k => we_of (pe_op ho pe_w pe_w) (ha.k σ H _ S fun v H1 S1 x1 r1 => hx.k σ H1 W _ tk S1 fun cls dd H2 S2 x2 r2 => k cls dd H2 S2 (x1.trans (by rw [← ha.dm]; exact x2)) r2)
/-- an argument raises: f(..), f any def that is promised something -/
theorem x_fnA {sp : Sp} (F : Dfn X.prog X.w X.K X.mg X.base n k sp) (hr : Room k X.A) (ha : XA X M e cs (a :: es) x cs1) (hg : Gl X n := by rfl) (hdb : (n == ("__debug__" : Str)) = false := by decide)
    (he : starEach (a :: es) X.env = (false, eval a X.env) :: starEach es X.env := by rfl) (hpl : (backTo pos (starEach es X.env)).any (·.1) = false := by rfl) : EX X M e cs (.Call (.Name n p) (a :: es) [] pos) x cs1 where
  dm := ha.dm
  k := fun σ H W Q tk S k => by
    obtain ⟨f, hm, hk, F⟩ := F.ex
    exact we_of (pe_callRS (E := WE W) F hr hg hm hk (passAt tk) pa_w hdb he hpl) (ha.k σ H W _ tk S k)
theorem x_maA {sp : Sp} (F : Mkr X.prog X.w X.K X.mg X.base cn k sp) (hr : Room (k + 1) X.A) (ha : XA X M e cs (a :: es) x cs1) (hg : Gl X cn := by rfl) (hdb : (cn == ("__debug__" : Str)) = false := by decide)
    (he : starEach (a :: es) X.env = (false, eval a X.env) :: starEach es X.env := by rfl) (hpl : (backTo pos (starEach es X.env)).any (·.1) = false := by rfl) : EX X M e cs (.Call (.Name cn p) (a :: es) [] pos) x cs1 where
  dm := ha.dm
  k := fun σ H W Q tk S k => by
    obtain ⟨C, f, hm, hmk, F⟩ := F.ex
    exact we_of (pe_makeRS (E := WE W) hmk F hr hg hm (passAt tk) pa_w hdb he hpl) (ha.k σ H W _ tk S k)
theorem x_smA {sp : Sp} {pl : Sem Bool} (F : Stc X.prog X.w X.K X.mg X.base cn m k sp) (hr : Room k X.A) (ha : XA X M e cs (a :: es) x cs1) (hg : Gl X cn := by rfl) (hdb : (cn == ("__debug__" : Str)) = false := by decide)
    (hst : starEach (a :: es) X.env = (false, eval a X.env) :: starEach es X.env := by rfl) (hpl : (backTo pos (starEach es X.env)).any (·.1) = false := by rfl)
    (ht : eval (.Call (.Attribute (.Name cn p) m apos) (a :: es) [] pos) X.env = (do
      let ov ← eval (.Name cn p) X.env
      standAt apos.atName
      let (f, first) ← holding [ov] (getMethod ov m pl)
      callWith pos f first (backTo pos (starEach (a :: es) X.env)) (backToKw pos (keywordEach [] X.env))) := by rfl) : EX X M e cs (.Call (.Attribute (.Name cn p) m apos) (a :: es) [] pos) x cs1 where
  dm := ha.dm
  k := fun σ H W Q tk S k => by
    obtain ⟨C, mc, g, hm, hrd, hv, hk, F⟩ := F.ex
    exact we_of (pe_cstatS (E := WE W) (pe_glob (v := .ref C) hg hm rfl hdb) hrd hv hk F hr (passAt tk) pa_w hst hpl ht) ⟨rfl, ha.k σ H W _ tk S k⟩
theorem x_meA {sp : Sp} {pl : Sem Bool} (F : Mth X.prog X.w X.K X.mg X.base cn m k sp) (hr : Room k X.A) (ho : EE X M e cs o (.obj cn ns gs) cs1) (ha : XA X M e cs1 (a :: es) x cs2) (hnm : m ∉ ns := by decide +kernel)
    (hst : starEach (a :: es) X.env = (false, eval a X.env) :: starEach es X.env := by rfl) (hpl : (backTo pos (starEach es X.env)).any (·.1) = false := by rfl)
    (ht : eval (.Call (.Attribute o m apos) (a :: es) [] pos) X.env = (do
      let ov ← eval o X.env
      standAt apos.atName
      let (f, first) ← holding [ov] (getMethod ov m pl)
      callWith pos f first (backTo pos (starEach (a :: es) X.env)) (backToKw pos (keywordEach [] X.env))) := by rfl) : EX X M e cs (.Call (.Attribute o m apos) (a :: es) [] pos) x cs2 where
  dm := ha.dm.trans ho.dm
  k := fun σ H W Q tk S k => by
    obtain ⟨C, f, hm, hc, hmt, F⟩ := F.ex
    refine we_of (pe_methRS (E := WE W) pe_w hc hmt F hr (passAt tk) pa_w hst hpl ht) (ho.k σ H _ S fun v H1 S1 x1 r1 => ?_)
    obtain ⟨ad, C', dx, xs, rfl, _, hm', hob, hl, rs⟩ := r_obj r1
    rw [hm] at hm'; cases hm'
    exact ⟨ad, dx, _, rfl, hob, zip_lookup_none hnm, ha.k σ H1 W _ tk S1 fun cls dd H2 S2 x2 r2 => k cls dd H2 S2 (x1.trans (by rw [← ho.dm]; exact x2)) r2⟩
theorem x_meO {sp : Sp} {pl : Sem Bool} (F : Mth X.prog X.w X.K X.mg X.base cn m k sp) (hr : Room k X.A) (ho : EX X M e cs o x cs1)
    (ht : eval (.Call (.Attribute o m apos) [] [] pos) X.env = (do
      let ov ← eval o X.env
      standAt apos.atName
      let (f, first) ← holding [ov] (getMethod ov m pl)
      callWith pos f first (backTo pos (starEach [] X.env)) (backToKw pos (keywordEach [] X.env))) := by rfl) : EX X M e cs (.Call (.Attribute o m apos) [] [] pos) x cs1 where
  dm := ho.dm
  k := fun σ H W Q tk S k => by
    obtain ⟨C, f, hm, hc, hmt, F⟩ := F.ex
    exact we_of (pe_methRS0 (E := WE W) pe_w hc hmt F hr (passAt tk) ht) (ho.k σ H W _ tk S k)
theorem x_tup {x1} (ha : XA X M e cs es x cs1) : EX X M e cs (.Tuple es x1 pos) x cs1 := ⟨ha.dm, fun σ H W Q tk S k => we_of (pe_tup pa_w) (ha.k σ H W _ tk S k)⟩
theorem x_lst (ha : XA X M e cs es x cs1) : EX X M e cs (.List es pos) x cs1 := ⟨ha.dm, fun σ H W Q tk S k => we_of (pe_lst pa_w) (ha.k σ H W _ tk S k)⟩
theorem x_if {p0 : Bool} (hc : ET X M e cs c p0 cs1) (ha : p0 = true → EX X M e cs1 a x cs2) (hb : p0 = false → EX X M e cs1 b x cs2) : EX X M e cs (.IfExp c a b pos) x cs2 where
  dm := by
    cases p0 with
    | true => exact (ha rfl).dm.trans hc.dm
    | false => exact (hb rfl).dm.trans hc.dm
  k := fun σ H W Q tk S k => we_of (pe_ifExp pt_w pe_w pe_w) (hc.k σ H _ S fun H1 S1 x1 => by
    cases p0 with
    | true =>
      rw [if_pos rfl]
      exact (ha rfl).k σ H1 W _ tk S1 fun cls dd H2 S2 x2 r2 => k cls dd H2 S2 (x1.trans (by rw [← hc.dm]; exact x2)) r2
    | false =>
      rw [if_neg (by simp)]
      exact (hb rfl).k σ H1 W _ tk S1 fun cls dd H2 S2 x2 r2 => k cls dd H2 S2 (x1.trans (by rw [← hc.dm]; exact x2)) r2)
theorem EX.eq {x' : Xc} (h : EX X M e cs a x cs1) (q : x = x') : EX X M e cs a x' cs1 := q ▸ h
theorem EA.eq {ds' : List D} (h : EA X M e cs es ds cs1) (q : ds = ds') : EA X M e cs es ds' cs1 := q ▸ h
end
/-! ### statements that raise -/
section
variable {X : Cx} {M M0 : Addr → Prop} {e : DE} {cs cs1 cs2 c2 : Cs} {fr : Frs} {D0 : Ends} {pos p pos' pos2 : Pos} {a b c ex : Expr} {rest st st2 : List Stmt} {d : D} {n : Str} {x : Xc} {A0 : List Addr} {H0 : Hp} {Q : VK} {E : XK} {code fl : Str} {C : Addr} {k : Nat}
/-- what is wanted where an error leaves -/
theorem err_fin (hfr : (A0, H0) ∈ fr) (hM : ∀ a, M0 a → M a) (hc : ∀ p ∈ c2, p ∈ cs1) (hMc : ∀ p ∈ c2, M0 p.1) (kx : OutK X.K X.mg M0 A0 H0 c2 Q E (.err x)) {σ : L2.St} {H' : Hp} {cls : Value} {dd : Option Addr} (S : Sit X.K X.mg M σ H' e cs1) (xf : Fr fr H') (r : RX X.K X.mg M H' cls dd x) : E cls dd H' :=
  kx cls dd H' (fun a m => S.mt a (hM a m)) (xf _ hfr) (fun p hp => ⟨hMc p hp, (S.cel p (hc p hp)).2.ext (fun a o _ h => h) (fun a n _ z => n (hM a z)) fun o h => h⟩) (r.ext (fun a o _ h => h) (fun a n _ z => n (hM a z)))
theorem at_xretG (hx : EX X M e cs ex x cs1) (hfr : (A0, H0) ∈ fr) (hM : ∀ a, M0 a → M a) (hc : ∀ p ∈ c2, p ∈ cs1) (hMc : ∀ p ∈ c2, M0 p.1) (kx : OutK X.K X.mg M0 A0 H0 c2 Q E (.err x)) (tk : Takes X (fun cls d _ H => E cls d H) := by exact takes_of rfl rfl rfl rfl) : At X M e cs fr (wSs X (.Return (some ex) pos :: rest) D0) := fun σ H S xf l =>
  wss_of (pss_cons (ps_ret pe_w) pss_w) (hx.k σ H _ _ tk S fun cls dd H1 S1 x1 r1 => err_fin hfr hM hc hMc kx S1 (ext_on xf l x1) r1)
theorem at_xsetG (hx : EX X M e cs ex x cs1) (hfr : (A0, H0) ∈ fr) (hM : ∀ a, M0 a → M a) (hc : ∀ p ∈ c2, p ∈ cs1) (hMc : ∀ p ∈ c2, M0 p.1) (kx : OutK X.K X.mg M0 A0 H0 c2 Q E (.err x)) (i : Nat) (hN : X.N.Nodup) (hi : X.N[i]? = some n := by rfl) (hxl : Loc X.env.scope n := by first | exact .inl rfl | exact .inr rfl)
    (hs : swapsWith ex (some (.Name n pos')) pos.line X.env = pure false := by rfl) (hf : X.fn n = true ∨ X.env.scope.names.lookup n = some .local := by first | exact .inl rfl | exact .inr rfl) (tk : Takes X (fun cls d _ H => E cls d H) := by exact takes_of rfl rfl rfl rfl) : At X M e cs fr (wSs X (.Assign [.Name n pos'] ex pos :: rest) D0) := fun σ H S xf l =>
  wss_of (pss_cons (ps_set hN hi hxl pe_w hs hf) pss_w) (hx.k σ H _ _ tk S fun cls dd H1 S1 x1 r1 => err_fin hfr hM hc hMc kx S1 (ext_on xf l x1) r1)
theorem at_xexprG (hx : EX X M e cs ex x cs1) (hfr : (A0, H0) ∈ fr) (hM : ∀ a, M0 a → M a) (hc : ∀ p ∈ c2, p ∈ cs1) (hMc : ∀ p ∈ c2, M0 p.1) (kx : OutK X.K X.mg M0 A0 H0 c2 Q E (.err x)) (hs : swapsWith ex none pos.line X.env = pure false := by rfl) (tk : Takes X (fun cls d _ H => E cls d H) := by exact takes_of rfl rfl rfl rfl) : At X M e cs fr (wSs X (.Expr ex pos :: rest) D0) := fun σ H S xf l =>
  wss_of (pss_cons (ps_expr pe_w hs) pss_w) (hx.k σ H _ _ tk S fun cls dd H1 S1 x1 r1 => err_fin hfr hM hc hMc kx S1 (ext_on xf l x1) r1)
theorem rx_new {H : Hp} {d0 : Addr} {ns : List Str} {ds : List D} {xs : List V} {cn : Str} (mt : ∀ a, M a → H a ≠ none) (hm : X.mg cn = some (.ref C)) (hn : H d0 = none) (r : Rs X.K X.mg M H xs ds) (hl : ns.length = xs.length) : RX X.K X.mg M (upd H d0 (.xd (ns.zip xs))) (.ref C) (some d0) ⟨cn, ns, ds⟩ :=
  ⟨C, d0, xs, hm, rfl, rfl, new_m mt hn, upd_same, hl, Rs.ext (fun a o _ h => by rw [upd_ne (ne_of_none h hn)]; exact h) (fun _ n _ => n) _ r⟩
/-- raise C(e) -/
theorem at_raise1G (T : Ox.Err1 X.prog X.w X.K X.mg n code fl C) (ha : EE X M e cs a d cs1) (hr : Room k X.A) (hfr : (A0, H0) ∈ fr) (hM : ∀ a, M0 a → M a) (hc : ∀ p ∈ c2, p ∈ cs1) (hMc : ∀ p ∈ c2, M0 p.1) (kx : OutK X.K X.mg M0 A0 H0 c2 Q E (.err ⟨n, ["code", fl], [.str code, d]⟩)) (hne : (fl == ("code" : Str)) = false := by decide) (hg : Gl X n := by rfl) (hdb : (n == ("__debug__" : Str)) = false := by decide)
    (he : starEach (a :: []) X.env = (false, eval a X.env) :: starEach [] X.env := by rfl) (hpl : (backTo pos (starEach [] X.env)).any (·.1) = false := by rfl) (hcm : X.calm = true := by rfl) (tk : Takes X (fun cls d _ H => E cls d H) := by exact takes_of rfl rfl rfl rfl) :
    At X M e cs fr (wSs X (.Raise (some (.Call (.Name n p) [a] [] pos)) none pos2 :: rest) D0) := fun σ H S xf l =>
  wss_of (pss_cons (ps_raise hcm tk (pmk_1 T hne hr (pa_cons pe_w pa_nil he) hg hdb he hpl)) pss_w) (ha.k σ H _ S fun v H1 S1 x1 r1 => ⟨v, rfl, fun d0 hn => by
    have xn : Ext [] H1 (upd H1 d0 (.xd [(("code" : Str), V.str code), (fl, v)])) := Ext.new hn
    exact err_fin hfr hM hc hMc kx (S1.ex xn) (ext_on (ext_on xf l x1) (lo_of l ha.dm) (xn.mono (by simp))) (rx_new (ns := ["code", fl]) (xs := [.str code, v]) S1.mt T.mC hn (.cons (by simp [R]) (.cons r1 .nil)) rfl)⟩)
/-- raise C() -/
theorem at_raise0G (T : Ox.Err0 X.prog X.w X.K X.mg n code C) (hr : Room k X.A) (hfr : (A0, H0) ∈ fr) (hM : ∀ a, M0 a → M a) (hc : ∀ p ∈ c2, p ∈ cs) (hMc : ∀ p ∈ c2, M0 p.1) (kx : OutK X.K X.mg M0 A0 H0 c2 Q E (.err ⟨n, ["code"], [.str code]⟩)) (hg : Gl X n := by rfl) (hdb : (n == ("__debug__" : Str)) = false := by decide)
    (hcm : X.calm = true := by rfl) (tk : Takes X (fun cls d _ H => E cls d H) := by exact takes_of rfl rfl rfl rfl) :
    At X M e cs fr (wSs X (.Raise (some (.Call (.Name n p) [] [] pos)) none pos2 :: rest) D0) := fun σ H S xf l =>
  wss_of (pss_cons (ps_raise hcm tk (pmk_0 T hr hg hdb)) pss_w) (fun d0 hn => by
    have xn : Ext [] H (upd H d0 (.xd [(("code" : Str), V.str code)])) := Ext.new hn
    exact err_fin hfr hM hc hMc kx (S.ex xn) (ext_on xf l (xn.mono (by simp))) (rx_new (ns := ["code"]) (xs := [.str code]) S.mt T.mC hn (.cons (by simp [R]) .nil) rfl))
/-- .. nothing of one's own there -/
theorem at_xret (hx : EX X M e cs ex x cs1) (hfr : (A0, H0) ∈ fr) (kx : OutK X.K X.mg M A0 H0 cs1 Q E (.err x)) (hMc : ∀ p ∈ cs1, M p.1 := by simp) (tk : Takes X (fun cls d _ H => E cls d H) := by exact takes_of rfl rfl rfl rfl) : At X M e cs fr (wSs X (.Return (some ex) pos :: rest) D0) := at_xretG hx hfr (fun _ h => h) (fun _ h => h) hMc kx tk
end
/-! ### bodies -/
section
variable {P : Program} {w : World} {K : PySem.W.Frag} {mg : Str → Option Value} {base : Heap} {args : List D} {cs cs' : Cs} {res : Out} {x qual n c m : Str} {st : Stmt} {f : Addr} {fd : FuncData} {N ps : List Str} {k : Nat}
def BodyO (P : Program) (w : World) (K : PySem.W.Frag) (mg : Str → Option Value) (base : Heap) (qual : Str) (st : Stmt) (f : Addr) (N : List Str) (k : Nat) (args : List D) (cs : Cs) (res : Out) (cs' : Cs) : Prop :=
  ∀ (cdv : Value) (A : Around) (outer : List Env) (s : Shared) (H0 : Hp) (E : XK) (M : Addr → Prop) (Q : VK), Room k (A.deeper (PyProof.Rows.envOfC qual (defScope st) s.heap.objs.size f cdv)) → (∀ p ∈ cs, M p.1) → OutK K mg M (dom cs) H0 cs' Q E res →
    At (cxOf (L2.CX P w) P w K mg base N qual (defScope st) f cdv A outer s H0 E) M (args.map some ++ List.replicate (N.length - args.length) none) cs [(dom cs, H0)]
      (wSs (cxOf (L2.CX P w) P w K mg base N qual (defScope st) f cdv A outer s H0 E) (defBody st) { nx := fun _ H' => Q .non H', rt := Q })
theorem fnrO_of (F : Fun K x qual st f fd) (S : FnScope N ps (defScope st)) (hb : Binds K fd ps []) (hl : args.length = ps.length) (body : BodyO P w K mg base qual st f N k args cs res cs') : FnR P w K mg base (L2.CX P w) (k + 1) f (outSp K mg args cs res cs') := by
  have h : FnOk P w K mg base (L2.CX P w) (k + 1) f fd ps (outSp K mg args cs res cs') := F.okX S (fun vs H Q E h => by
    obtain ⟨M, _, r, _⟩ := h
    rw [r.length, hl]) fun cdv A outer s H vs Q E hr h => by
    obtain ⟨M, mt, r, hc, nd, kq⟩ := h
    refine ⟨_, pss_w, body cdv A outer s H E M Q hr (fun p hp => (hc p hp).1) kq _ _ (sit_start mt r hc nd) (fun q hq => ?_) fun q hq a ha => ?_⟩
    · rcases List.mem_singleton.mp hq with rfl
      exact Ext.refl _ _
    · rcases List.mem_singleton.mp hq with rfl
      exact .inl ha
  have h2 := h.raw (ds := []) (dvs := []) hb .nil
  simpa using h2
theorem fn_of' (F : Fun K x qual st f fd) (hm : mg n = some (.ref f)) (S : FnScope N ps (defScope st)) (hb : Binds K fd ps []) (body : BodyO P w K mg base qual st f N k args cs res cs') (hl : args.length = ps.length := by rfl) : Fn P w K mg base n (k + 1) args cs res cs' := ⟨f, hm, F.kp, fnrO_of F S hb hl body⟩
theorem me_of (hC : ∃ C, mg c = some (.ref C) ∧ Cls K C ∧ Meth K C m f) (F : Fun K x qual st f fd) (S : FnScope N ps (defScope st)) (hb : Binds K fd ps []) (body : BodyO P w K mg base qual st f N k args cs res cs') (hl : args.length = ps.length := by rfl) : Me P w K mg base c m (k + 1) args cs res cs' := by
  obtain ⟨C, hm, hc, hmt⟩ := hC
  exact ⟨C, f, hm, hc, hmt, fnrO_of F S hb hl body⟩
theorem pr_of (hC : ∃ C p, mg c = some (.ref C) ∧ Cls K C ∧ PropOf K C m p f) (F : Fun K x qual st f fd) (S : FnScope N ps (defScope st)) (hb : Binds K fd ps []) (body : BodyO P w K mg base qual st f N k args [] res []) (hl : args.length = ps.length := by rfl) : Pr P w K mg base c m (k + 1) args res := by
  obtain ⟨C, p, hm, hc, hp⟩ := hC
  exact ⟨C, p, f, hm, hc, hp, fnrO_of F S hb hl body⟩
theorem du_of (hC : ∃ C, mg c = some (.ref C) ∧ PySem.W.findIn K (.ref C) m = some (some (.ref f)) ∧ PySem.W.isFn K (.ref f) = true) (F : Fun K x qual st f fd) (S : FnScope N ps (defScope st)) (hb : Binds K fd ps []) (body : BodyO P w K mg base qual st f N k args [] res []) (hl : args.length = ps.length := by rfl) : Du P w K mg base c m (k + 1) args res := by
  obtain ⟨C, hm, h1, h2⟩ := hC
  exact ⟨C, f, hm, h1, h2, fnrO_of F S hb hl body⟩
theorem sm_of (hC : ∃ C mc, mg c = some (.ref C) ∧ ClX.CRead K C mc ∧ CStm K C mc m f) (F : Fun K x qual st f fd) (S : FnScope N ps (defScope st)) (hb : Binds K fd ps []) (body : BodyO P w K mg base qual st f N k args cs res cs') (hl : args.length = ps.length := by rfl) : Sm P w K mg base c m (k + 1) args cs res cs' := by
  obtain ⟨C, mc, hm, h1, h2⟩ := hC
  exact ⟨C, mc, f, hm, h1, h2, F.kp, fnrO_of F S hb hl body⟩
end
end Od

set_option Elab.async false
set_option linter.all false
set_option maxRecDepth 100000
set_option maxHeartbeats 4000000
/-! Ol1: a lambda is made: without parameters, or with one parameter whose default is a written int. -/
namespace Od
open PySem L2 LamX PyProof.Rows
abbrev lamFd (L : LamF) (dV : Value) (pm cv ctv : Value) : FuncData := { name := "<lambda>", qualname := L.qual, params := L.params, body := .expr L.body, scope := L.scope, globals := mainGlobals, closure := L.cl, defaults := dV, kwdefaults := .none, doc := .none, pyModule := pm, annotations := none, code := cv, closureTuple := ctv, builtins := builtinsNs }
section
variable {M : Model} {A : Around} {E : Value → Shared → Prop} {s : Shared} {L : LamF} {env : Env} {c P : Addr} {ps : Array Value} {pos : Pos} {fl : Nat} {mg : Str → Option Value} {Q : Value → Shared → Prop} {dV : Value}
theorem tail_new (hcl : closureFor L.scope env = pure L.cl) (hge : env.globals = mainGlobals) (hg : s.heap.Ns mainGlobals mg) (hcode : env.code = .ref c) (C : PySem.W.CodeHd s.heap c P) (hP : s.heap.get? P = some (PySem.W.tabObj ps)) (ht : TriplesOk ps.toList) (hnf : codeAmong pos ps.toList = none) (hgP : mainGlobals ≠ P) (hb : s.heap.BuiltinsAt mg P)
    (h : ∀ c' ctv h' tk, Heap.ExtBut P s.heap h' → s.heap.objs.size ≤ c' → c' < h'.objs.size → h'.CodeRec (.ref c') L.qual → h'.get? P = some (PySem.W.tabObj (ps ++ #[rawInt pos.line, rawInt pos.col, .ref c'])) → Q (.ref h'.objs.size) { s with heap := h'.push { cls := .type "function", data := .func (lamFd L dV ((mg "__name__").getD .none) (.ref c') ctv) }, toks := tk }) :
    wpAny M A (makeTail "<lambda>" L.qual L.params (.expr L.body) L.scope env dV .none none pos fl) Q E s := by
  obtain ⟨bm, ob, hbm, hne0, _, hneP, hbo, hcls, hdict, hdata⟩ := hb
  have go : ∀ (ctv : Value) (hp : Heap) (tk : Tok), (∀ b o, s.heap.get? b = some o → hp.get? b = some o) → s.heap.objs.size ≤ hp.objs.size → hp.Ns mainGlobals mg →
      wpAny M A (functionCode env pos fl "<lambda>" L.qual L.params L.scope (.expr L.body) >>= fun cd => builtinsFor env.globals env.builtins >>= fun bl => nsGet env.globals "__name__" >>= fun nm => (pure Value.none : Sem Value) >>= fun dc =>
        newObj (.type "function") (.func { name := "<lambda>", qualname := L.qual, params := L.params, body := .expr L.body, scope := L.scope, globals := env.globals, closure := L.cl, closureTuple := ctv, code := cd, builtins := bl, defaults := dV, kwdefaults := .none, annotations := none, pyModule := nm.getD .none, doc := dc })) Q E { s with heap := hp, toks := tk } := fun ctv hp tk kp sz hg1 => by
    refine wpAny_bind (wpAny_functionCodeX hcode ((C.keeps kp).code (kp _ _ hP) ht) ((C.keeps kp).tab (kp _ _ hP)) hnf fun c' h' tk' hx hge' hlt _ hrec htb _ => ?_)
    have hg' : h'.Ns mainGlobals mg := hg1.extBut hx hgP
    have hx' : Heap.ExtBut P s.heap h' := fun b o hb' e => hx b o hb' (kp _ _ e)
    rw [hge]
    refine wpAny_bind (wpAny_builtinsFor hg' hbm hne0 (hx' _ _ hneP hbo) hcls hdict hdata (wpAny_bind (wpAny_nsGet hg' (wpAny_bind (wpAny_pure (wpAny_newObj_type ?_ (by size_fits)))))))
    exact h c' ctv h' tk' hx' (Nat.le_trans sz hge') hlt hrec htb.2
  unfold makeTail
  rw [hcl]
  refine wpAny_bind (wpAny_pure ?_)
  cases hz : L.cl.isEmpty with
  | true => exact wpAny_bind (wpAny_pure (by have := go .none s.heap s.toks (fun _ _ e => e) (Nat.le_refl _) hg; exact this))
  | false =>
    simp only [Bool.false_eq_true, if_false]
    refine wpAny_bind (wpAny_newTextTuple ?_)
    exact go _ _ s.toks (fun b o e => Heap.get?_push_of_some _ e) (by rw [Heap.size_push]; exact Nat.le_succ _) (hg.push _)
theorem tail_hit {cv : Value} (hcl : closureFor L.scope env = pure L.cl) (hge : env.globals = mainGlobals) (hg : s.heap.Ns mainGlobals mg) (hcode : env.code = .ref c) (C : PySem.W.CodeHd s.heap c P) (hP : s.heap.get? P = some (PySem.W.tabObj ps)) (ht : TriplesOk ps.toList) (hf : codeAmong pos ps.toList = some cv) (hb : s.heap.BuiltinsAt mg P)
    (h : ∀ (ctv : Value) (h' : Heap) (tk : Tok), (∀ b o, s.heap.get? b = some o → h'.get? b = some o) → s.heap.objs.size ≤ h'.objs.size → Q (.ref h'.objs.size) { s with heap := h'.push { cls := .type "function", data := .func (lamFd L dV ((mg "__name__").getD .none) cv ctv) }, toks := tk }) :
    wpAny M A (makeTail "<lambda>" L.qual L.params (.expr L.body) L.scope env dV .none none pos fl) Q E s := by
  obtain ⟨bm, ob, hbm, hne0, _, hneP, hbo, hcls, hdict, hdata⟩ := hb
  have go : ∀ (ctv : Value) (hp : Heap) (tk : Tok), (∀ b o, s.heap.get? b = some o → hp.get? b = some o) → s.heap.objs.size ≤ hp.objs.size → hp.Ns mainGlobals mg →
      wpAny M A (functionCode env pos fl "<lambda>" L.qual L.params L.scope (.expr L.body) >>= fun cd => builtinsFor env.globals env.builtins >>= fun bl => nsGet env.globals "__name__" >>= fun nm => (pure Value.none : Sem Value) >>= fun dc =>
        newObj (.type "function") (.func { name := "<lambda>", qualname := L.qual, params := L.params, body := .expr L.body, scope := L.scope, globals := env.globals, closure := L.cl, closureTuple := ctv, code := cd, builtins := bl, defaults := dV, kwdefaults := .none, annotations := none, pyModule := nm.getD .none, doc := dc })) Q E { s with heap := hp, toks := tk } := fun ctv hp tk kp sz hg1 => by
    refine wpAny_bind (wpAny_functionCode_hit hcode ((C.keeps kp).code (kp _ _ hP) ht) hf ?_)
    rw [hge]
    refine wpAny_bind (wpAny_builtinsFor hg1 hbm hne0 (kp _ _ hbo) hcls hdict hdata (wpAny_bind (wpAny_nsGet hg1 (wpAny_bind (wpAny_pure (wpAny_newObj_type ?_ (by size_fits)))))))
    exact h ctv hp tk kp sz
  unfold makeTail
  rw [hcl]
  refine wpAny_bind (wpAny_pure ?_)
  cases hz : L.cl.isEmpty with
  | true => exact wpAny_bind (wpAny_pure (by have := go .none s.heap s.toks (fun _ _ e => e) (Nat.le_refl _) hg; exact this))
  | false =>
    simp only [Bool.false_eq_true, if_false]
    refine wpAny_bind (wpAny_newTextTuple ?_)
    exact go _ _ s.toks (fun b o e => Heap.get?_push_of_some _ e) (by rw [Heap.size_push]; exact Nat.le_succ _) (hg.push _)
end
section
variable {X : Cx} {pins : List (Addr × Obj)} {σ : L2.St} {H : Hp} {s : Shared}
theorem lamO_ok {f c' : Addr} {L : LamF} {dV pm ctv : Value} {h : Heap} (e : h.get? f = some ({ cls := .type "function", data := .func (lamFd L dV pm (.ref c') ctv) } : Obj)) : ObjOk X.prog X.w H h f (LamO f L dV c') :=
  ⟨⟨pm, ctv, e⟩, ⟨_, e⟩, fun h1 h2 ⟨pm, ctv, z⟩ st => ⟨pm, ctv, st _ z⟩⟩
/-- the table at P: its codes, not marked, bear the name q -/
def TabM (M : Addr → Prop) (H : Hp) (P : Addr) (q : Str) : Prop := ∃ ps : Array Value, H P = some (.tbl ps) ∧ TriplesOk ps.toList ∧ ∀ (pos : Pos) (cv : Value), codeAmong pos ps.toList = some cv → ∃ c, cv = .ref c ∧ ¬ M c ∧ H c = some (LamX.CodeO c q)
theorem lam_fin {M : Addr → Prop} {c P : Addr} {L : LamF} {dV : Value} {pos : Pos} {E : Value → Shared → Prop} {Q : Value → Shared → Prop} (I : Inv X pins σ H s) (mt : ∀ a, M a → H a ≠ none) (TB : TabB X.base X.mg c P) (hcode : X.env.code = .ref c) (hq : L.qual = X.env.qual ++ "<lambda>") (hT : TabM M H P L.qual)
    (hcl : L.cl = cloFrom X.env.cells L.scope.names []) (hfree : ∀ y ∈ L.scope.names, y.2 = .free → ∃ c, X.env.cells.lookup y.1 = some c)
    (h : ∀ (f c' : Addr) (H1 : Hp) (s' : Shared), Inv X pins σ H1 s' → (∀ b o, H b = some o → b ≠ P → H1 b = some o) → (∀ a, M a → H1 a ≠ none) → TabM M H1 P L.qual → H f = none → H1 f = some (LamO f L dV c') → ¬ M c' → H1 c' = some (CodeO c' L.qual) → Q (.ref f) s') :
    wpAny (model X.prog X.w) X.A (makeTail "<lambda>" L.qual L.params (.expr L.body) L.scope X.env dV .none none pos pos.line) Q E s := by
  obtain ⟨ps, hP, ht, ha⟩ := hT
  have bP : s.heap.BuiltinsAt X.mg P := TB.bm.keeps I.bk
  have hP' : s.heap.get? P = some (PySem.W.tabObj ps) := I.hok P _ hP
  have hclo : closureFor L.scope X.env = pure L.cl := by rw [hcl]; exact closure_ok hfree
  cases hc : codeAmong pos ps.toList with
  | none =>
    refine tail_new hclo I.ok.glob (I.mod.glob.keeps I.bk) hcode (TB.code.keeps I.bk) hP' ht hc TB.gP bP fun c' ctv h' tk hx hge hlt hrec htb => ?_
    obtain ⟨c2, oc, vs, t, e2, hoc, hd, hv⟩ := hrec
    cases e2
    have nC : H c' = none := I.hok.fresh hge
    have I1 := inv_table (q := L.qual) (t' := tk) (more := #[rawInt pos.line, rawInt pos.col, .ref c']) (h' := h') I hP (fun b o hb e => hx b o hb e) htb hge ⟨oc, vs, t, hoc, hd, hv⟩
    generalize hH1 : upd (upd H P (.tbl (ps ++ #[rawInt pos.line, rawInt pos.col, .ref c']))) c' (CodeO c' L.qual) = H1 at I1
    have nF : H1 h'.objs.size = none := I1.hok.fresh (Nat.le_refl _)
    have e1 : (h'.push ({ cls := .type "function", data := .func (lamFd L dV ((X.mg "__name__").getD .none) (.ref c') ctv) } : Obj)).get? h'.objs.size = some ({ cls := .type "function", data := .func (lamFd L dV ((X.mg "__name__").getD .none) (.ref c') ctv) } : Obj) := Heap.get?_push_size _ rfl
    have I2 := I1.laid (t' := tk) (a := h'.objs.size) (o := LamO h'.objs.size L dV c') (fun b u e => Heap.get?_push_of_some _ e) (Nat.le_refl _) (lamO_ok e1)
    have keep1 : ∀ b o, H b = some o → b ≠ P → H1 b = some o := fun b o e n => by rw [← hH1, upd_ne (ne_of_none e nC), upd_ne n]; exact e
    have fne : h'.objs.size ≠ c' := Nat.ne_of_gt hlt
    have nfP : h'.objs.size ≠ P := Nat.ne_of_gt (Heap.lt_size htb)
    have nM : ¬ M c' := fun m => mt c' m nC
    have atc : upd H1 h'.objs.size (LamO h'.objs.size L dV c') c' = some (CodeO c' L.qual) := by rw [upd_ne (Ne.symm fne), ← hH1, upd_same]
    have keep2 : ∀ b o, H b = some o → b ≠ P → upd H1 h'.objs.size (LamO h'.objs.size L dV c') b = some o := fun b o e n => (upd_ne (ne_of_none (keep1 b o e n) nF)).trans (keep1 b o e n)
    have atP : upd H1 h'.objs.size (LamO h'.objs.size L dV c') P = some (.tbl (ps ++ #[rawInt pos.line, rawInt pos.col, .ref c'])) := by rw [upd_ne (Ne.symm nfP), ← hH1, upd_ne (ne_of_none hP nC), upd_same]
    have eL : (ps ++ #[rawInt pos.line, rawInt pos.col, .ref c']).toList = ps.toList ++ [rawInt pos.line, rawInt pos.col, .ref c'] := by simp
    refine h h'.objs.size c' _ _ I2 keep2 (fun a m => ?_) ⟨_, atP, by rw [eL]; exact PySem.TriplesOk_snoc _ _ _ _ ht, fun p' cv hcv => ?_⟩ (I.hok.fresh (Nat.le_trans hge (Nat.le_of_lt hlt))) upd_same nM atc
    · by_cases hb : a = P
      · rw [hb, atP]; simp
      · cases q : H a with
        | none => exact absurd q (mt a m)
        | some o => rw [keep2 a o q hb]; simp
    · rw [eL] at hcv
      rcases LamX.among_app _ ht hcv with z | z
      · obtain ⟨c0, e1, n0, e2⟩ := ha p' cv z
        exact ⟨c0, e1, n0, keep2 _ _ e2 fun z => by rw [z, hP] at e2; exact codeO_ne ps (Option.some.inj e2).symm⟩
      · exact ⟨c', z, nM, atc⟩
  | some cv =>
    obtain ⟨c', e, nM, hco⟩ := ha pos cv hc
    subst e
    refine tail_hit hclo I.ok.glob (I.mod.glob.keeps I.bk) hcode (TB.code.keeps I.bk) hP' ht hc bP fun ctv h' tk hx hsz => ?_
    have I1 : Inv X pins σ H { s with heap := h', toks := tk } := I.kept hx
    have nF : H h'.objs.size = none := I1.hok.fresh (Nat.le_refl _)
    have e1 : (h'.push ({ cls := .type "function", data := .func (lamFd L dV ((X.mg "__name__").getD .none) (.ref c') ctv) } : Obj)).get? h'.objs.size = some ({ cls := .type "function", data := .func (lamFd L dV ((X.mg "__name__").getD .none) (.ref c') ctv) } : Obj) := Heap.get?_push_size _ rfl
    have I2 := I1.laid (t' := tk) (a := h'.objs.size) (o := LamO h'.objs.size L dV c') (fun b u e => Heap.get?_push_of_some _ e) (Nat.le_refl _) (lamO_ok e1)
    have keep2 : ∀ b o, H b = some o → upd H h'.objs.size (LamO h'.objs.size L dV c') b = some o := fun b o e => (upd_ne (ne_of_none e nF)).trans e
    refine h h'.objs.size c' _ _ I2 (fun b o e _ => keep2 b o e) (fun a m => ?_) ⟨ps, keep2 _ _ hP, ht, fun p' cv hcv => ?_⟩ nF upd_same nM (keep2 _ _ hco)
    · cases q : H a with
      | none => exact absurd q (mt a m)
      | some o => rw [keep2 a o q]; simp
    · obtain ⟨c0, e1, n0, e2⟩ := ha p' cv hcv
      exact ⟨c0, e1, n0, keep2 _ _ e2⟩
end
/-- where lambdas are made: the code object at c, its table at P -/
structure LamAt (X : Cx) (c P : Addr) : Prop where
  tb : TabB X.base X.mg c P
  code : X.env.code = .ref c
section
variable {X : Cx} {M : Addr → Prop} {e : DE} {cs : Cs} {params : Arguments} {body : Expr} {scope : Scope} {lpos : Pos} {c P : Addr} {q : Str}
abbrev lamOf (X : Cx) (q : Str) (params : Arguments) (body : Expr) (scope : Scope) (dvs : List Int) : LamF := ⟨q, params, body, scope, cloFrom X.env.cells scope.names [], dvs⟩
theorem sit_lam {σ : L2.St} {H H1 : Hp} {L : LamF} {dV : Value} {f c' : Addr} (S : Sit X.K X.mg M σ H e cs) (hin : (P, MC.tab q) ∈ cs) (kp : ∀ b o, H b = some o → b ≠ P → H1 b = some o) (mt : ∀ a, M a → H1 a ≠ none) (hT : TabM M H1 P q) (nf : H f = none) (hf : H1 f = some (LamO f L dV c')) (nc : ¬ M c') (hc : H1 c' = some (CodeO c' L.qual)) (hd : (L.dvs = [] ∧ dV = .none) ∨ ∃ t, dV = .ref t ∧ ¬ M t ∧ H1 t = some (.tup (L.dvs.map V.int))) :
    Sit X.K X.mg M σ H1 e cs ∧ Ext (dom cs) H H1 ∧ R X.K X.mg M H1 (.ref f) (.lam L) := by
  have mP : M P := (S.cel _ hin).1
  have x1 : Ext (dom cs) H H1 := fun a o h n => kp a o h fun z => n (by rw [z]; exact List.mem_map_of_mem (f := (·.1)) hin)
  refine ⟨S.step rfl x1 mt fun p hp => ?_, x1, by unfold R; exact ⟨f, c', dV, rfl, fun m => S.mt f m nf, hf, nc, hc, hd⟩⟩
  obtain ⟨mp, cp⟩ := S.cel p hp
  refine ⟨mp, ?_⟩
  by_cases h : p.1 = P
  · have hpe : p = (P, MC.tab q) := by
      have nd := S.nd
      obtain ⟨pa, pc⟩ := p
      simp only at h
      subst h
      have hinj : ∀ {l : Cs}, (l.map (·.1)).Nodup → (pa, pc) ∈ l → (pa, MC.tab q) ∈ l → pc = MC.tab q := by
        intro l
        induction l with
        | nil => intro _ h; cases h
        | cons z r ih =>
          intro nd h1 h2
          rw [List.map_cons, List.nodup_cons] at nd
          rcases List.mem_cons.mp h1 with e1 | e1
          · rcases List.mem_cons.mp h2 with e2 | e2
            · rw [← e1] at e2
              exact (congrArg Prod.snd e2).symm
            · exact absurd (by rw [← e1]; exact List.mem_map_of_mem (f := (·.1)) e2) nd.1
          · rcases List.mem_cons.mp h2 with e2 | e2
            · exact absurd (by rw [← e2]; exact List.mem_map_of_mem (f := (·.1)) e1) nd.1
            · exact ih nd.2 e1 e2
      rw [hinj nd hp hin]
    subst hpe
    exact hT
  · exact cp.ext (fun a o nm h => kp a o h fun z => nm (by rw [z]; exact mP)) (fun _ n _ => n) fun o h' => kp _ _ h' h
theorem tab_m {σ : L2.St} {H : Hp} (S : Sit X.K X.mg M σ H e cs) (hin : (P, MC.tab q) ∈ cs) : TabM M H P q := (S.cel _ hin).2
/-- lambda: body -/
theorem e_lam0 (T : LamAt X c P) (hin : (P, MC.tab q) ∈ cs) (hq : q = X.env.qual ++ "<lambda>") (hfree : ∀ y ∈ scope.names, y.2 = .free → X.env.scope.names.lookup y.1 = some .cell ∨ X.env.scope.names.lookup y.1 = some .free) (hdef : defaultsOf params X.env = ([], []) := by rfl) :
    EE X M e cs (.Lambda params body scope lpos) (.lam (lamOf X q params body scope [])) cs where
  dm := rfl
  k := fun σ H Q S k pins s I => by
    have hfr : ∀ y ∈ scope.names, y.2 = .free → ∃ c, X.env.cells.lookup y.1 = some c := fun y hy e => (hfree y hy e).elim (fun z => I.ok.has _ (.inl z)) fun z => I.ok.has _ (.inr z)
    refine PySem.W.kla_eval hdef ?_
    rw [makeFunction_eq]
    simp only [List.zip_nil_right, List.filterMap_nil, List.isEmpty_nil, if_true, pure_bind]
    rw [← hq]
    refine lam_fin (L := lamOf X q params body scope []) I S.mt T.tb T.code hq (tab_m S hin) rfl hfr fun f c' H1 s' I1 kp mt hT nf hf nc hc => ?_
    obtain ⟨S1, x1, r1⟩ := sit_lam S hin kp mt hT nf hf nc hc (.inl ⟨rfl, rfl⟩)
    exact ⟨.ref f, H1, I1, rfl, k _ _ S1 x1 r1⟩
/-- lambda a=i: body -/
theorem e_lam1 {i : Int} {kk : Nat} {ip : Pos} (T : LamAt X c P) (hin : (P, MC.tab q) ∈ cs) (hq : q = X.env.qual ++ "<lambda>") (hfree : ∀ y ∈ scope.names, y.2 = .free → X.env.scope.names.lookup y.1 = some .cell ∨ X.env.scope.names.lookup y.1 = some .free) (hdef : defaultsOf params X.env = ([eval (.Constant (.int i) kk ip) X.env], []) := by rfl) (hkw : params.kwonlyargs = [] := by rfl) :
    EE X M e cs (.Lambda params body scope lpos) (.lam (lamOf X q params body scope [i])) cs where
  dm := rfl
  k := fun σ H Q S k pins s I => by
    have hfr : ∀ y ∈ scope.names, y.2 = .free → ∃ c, X.env.cells.lookup y.1 = some c := fun y hy e => (hfree y hy e).elim (fun z => I.ok.has _ (.inl z)) fun z => I.ok.has _ (.inr z)
    rw [arm_eval_Lambda, hdef]
    show wpAny _ _ (evalAll [eval (.Constant (.int i) kk ip) X.env] >>= fun dv => holding dv (evalAllOpt []) >>= fun kdv => makeFunction "<lambda>" (X.env.qual ++ "<lambda>") params (.expr body) scope X.env dv kdv [] lpos lpos.line) _ _ _
    refine wpAny_bind (wpAny_bind (wpAny_Constant_int (wpAny_bind (wpAny_holding (wpAny_pure (wpAny_pure (wpAny_bind (wpAny_holding (wpAny_pure ?_)))))))))
    rw [makeFunction_eq]
    simp only [hkw, List.zip_nil_left, List.filterMap_nil, List.isEmpty_nil, List.isEmpty_cons, Bool.false_eq_true, if_false, if_true, pure_bind]
    refine wpAny_bind (wpAny_newTextTuple ?_)
    have I0 : Inv X pins σ H { s with toks := s.toks + 1 } := I.tok _
    have et : (s.heap.push { cls := .type "tuple", data := .seq ([Value.int i s.toks] : List Value).toArray }).get? s.heap.objs.size = some { cls := .type "tuple", data := .seq ([Value.int i s.toks] : List Value).toArray } := Heap.get?_push_size _ rfl
    have nT : H s.heap.objs.size = none := I.hok.fresh (Nat.le_refl _)
    have IT : Inv X pins σ (upd H s.heap.objs.size (.tup [V.int i])) { s with heap := s.heap.push { cls := .type "tuple", data := .seq ([Value.int i s.toks] : List Value).toArray }, toks := s.toks + 1 } :=
      I.laid (t' := s.toks + 1) (a := s.heap.objs.size) (o := .tup [V.int i]) (fun b o e => Heap.get?_push_of_some _ e) (Nat.le_refl _) ⟨by rw [sizeLine_eq]; exact (by decide : 1 ≤ 16777216), [Value.int i s.toks], .cons ⟨_, rfl⟩ .nil, _, et, rfl, _, rfl⟩
    have ST := S.ex (Ext.new (A := []) (o := .tup [V.int i]) nT)
    rw [← hq]
    refine lam_fin (L := lamOf X q params body scope [i]) IT ST.mt T.tb T.code hq (tab_m ST hin) rfl hfr fun f c' H1 s' I1 kp mt hT nf hf nc hc => ?_
    have nMt : ¬ M s.heap.objs.size := fun m => S.mt _ m nT
    obtain ⟨S1, x1, r1⟩ := sit_lam ST hin kp mt hT nf hf nc hc (.inr ⟨s.heap.objs.size, rfl, nMt, kp _ _ upd_same fun z => nMt (by rw [z]; exact (S.cel _ hin).1)⟩)
    exact ⟨.ref f, H1, I1, rfl, k _ _ S1 ((Ext.new nT).trans x1) r1⟩
end
end Od

set_option Elab.async false
set_option linter.all false
set_option maxRecDepth 100000
set_option maxHeartbeats 4000000
/-! Ol2: a lambda is called: what its body gives or raises, from what the captured cells hold. -/
namespace Od
open PySem L2 LamX PyProof.Rows NdefX
theorem bind1 {M : Model} {A : Around} {E : Value → Shared → Prop} {s : Shared} {fd : FuncData} {ar : Arg} {t : Addr} {v : Value} {o : Obj} {n : Nat} {Q : List (Str × Value) → Shared → Prop} (h1 : fd.params.posonlyargs = []) (h2 : fd.params.args = [ar]) (h3 : fd.params.vararg = none) (h4 : fd.params.kwonlyargs = []) (h5 : fd.params.kwarg = none) (hd : fd.defaults = .ref t)
    (ho : s.heap.get? t = some o) (hs : o.data = .seq #[v] n) (h : Q [(ar.arg, v)] s) : wpAny M A (bindArgs fd ⟨[], []⟩) Q E s := by
  unfold bindArgs
  simp only [h1, h2, h3, h4, h5, hd, List.map_nil, List.map_cons, List.nil_append, List.append_nil, List.length_cons, List.length_nil, List.zip_nil_right, List.forIn_nil, pure_bind]
  refine wpAny_bind (wpAny_seqItems ho hs ?_)
  simp
  exact wpAny_pure h
theorem bind0 {M : Model} {A : Around} {E : Value → Shared → Prop} {s : Shared} {fd : FuncData} {Q : List (Str × Value) → Shared → Prop} (h1 : fd.params.posonlyargs = []) (h2 : fd.params.args = []) (h3 : fd.params.vararg = none) (h4 : fd.params.kwonlyargs = []) (h5 : fd.params.kwarg = none) (hd : fd.defaults = .none)
    (h : Q [] s) : wpAny M A (bindArgs fd ⟨[], []⟩) Q E s := by
  unfold bindArgs
  simp only [h1, h2, h3, h4, h5, hd, List.map_nil, List.nil_append, List.append_nil, List.length_nil, List.zip_nil_right, List.forIn_nil, pure_bind]
  refine wpAny_bind (m := seqItems? Value.none) (wpAny_pure ?_)
  simp
  exact wpAny_pure h
/-- the lambda's words: plain parameters alone, as many as there are defaults (none or one) -/
structure LamW (L : LamF) (ps : List Str) : Prop where
  pos : L.params.posonlyargs = []
  var : L.params.vararg = none
  kwo : L.params.kwonlyargs = []
  kwa : L.params.kwarg = none
  args : (L.params.args = [] ∧ L.dvs = [] ∧ ps = []) ∨ ∃ ar i, L.params.args = [ar] ∧ L.dvs = [i] ∧ ps = [ar.arg]
abbrev nfOf (L : LamF) (c' : Addr) : NF := ⟨"<lambda>", L.qual, L.params, [], L.scope, L.cl, c'⟩
/-- the context of a lambda's body -/
abbrev lcx (P : Program) (w : World) (K : PySem.W.Frag) (mg : Str → Option Value) (base : Heap) (N : List Str) (L : LamF) (c' f : Addr) (A : Around) (outer : List Env) (s : Shared) (H : Hp) (E : XK) : Cx := ncx (L2.CX P w) P w K mg base N (nfOf L c') f A outer s H E
section
variable {P : Program} {w : World} {K : PySem.W.Frag} {mg : Str → Option Value} {base : Heap} {N ps fr : List Str} {L : LamF} {f c' : Addr} {k : Nat} {dV : Value}
theorem lam_run {A : Around} {outer : List Env} {s : Shared} {H : Hp} {ws : List (Option V)} {Q : VK} {E : XK} (S : NScope N ps fr L.scope) (W : LamW L ps) (hr : Room (k + 1) A) (e0 : Env0 P w K mg base A outer s H) (hf : H f = some (LamO f L dV c')) (hc : H c' = some (CodeO c' L.qual))
    (hd : (L.dvs = [] ∧ dV = .none) ∨ ∃ t, dV = .ref t ∧ H t = some (.tup (L.dvs.map V.int))) (C : CellsAt L.cl fr ws s.heap H)
    (hbody : Room k (A.deeper (envF (nfOf L c') f s.heap.objs.size)) → wE (lcx P w K mg base N L c' f A outer s H E) L.body (startF N (L.dvs.map V.int) ws) H Q) :
    codeAny (model P w) A (.call (.ref f) ⟨[], []⟩) (CR (L2.CX P w) outer P w H s Q E) s := by
  have lim : s.heap.NoLimit := e0.mod.nolimit.keeps fun b o e => (e0.bs b o e).1
  obtain ⟨⟨pm, ctv, ho⟩, _, _⟩ := e0.hok f _ hf
  refine PySem.W.kla_callFunE hr.depth ho rfl S.co S.gen rfl (codeO_at e0.hok hc) ?_
  have main : ∀ us : List Value, Vals (L.dvs.map V.int) us → (L.dvs.map V.int).length = ps.length → wpAny (model P w) A.in1 (newFunctionEnv L.scope mainGlobals L.cl (ps.zip us) (L.qual ++ ".<locals>.") (some f) (.ref c') none builtinsNs)
      (fun env s₂ => s₂.heap.NoLimit ∧ codeAny (model P w) A (.expr L.body env) (CR (L2.CX P w) outer P w H s Q E) s₂) (fun e s' => CR (L2.CX P w) outer P w H s Q E (.error e) s') s := fun us r hl => by
    refine wpAny_newFunctionEnv S.nocell (fun ⟨n, _⟩ hy => S.par n (List.of_mem_zip hy).1) (fun h₁ hns hsb => ⟨lim.fresh _ hsb, ?_⟩) S.kind
    show codeAny _ _ (.expr L.body (envF (nfOf L c') f s.heap.objs.size)) _ _
    have kp : ∀ b o, s.heap.get? b = some o → h₁.get? b = some o := fun b o e => hsb.extBut b o (Nat.ne_of_lt (Heap.lt_size e)) (Heap.get?_push_of_some _ e)
    have I : Inv (lcx P w K mg base N L c' f A outer s H E) [] (startF N (L.dvs.map V.int) ws) H { s with heap := h₁, toks := s.toks + (ps.zip us).length } := inv_startN (F := nfOf L c') S hr.hd e0 hl r C hns kp
    refine PySem.W.kla_codeExpr (wpAny_mono (hbody (hr.deeper _) [] _ I) (fun v s' hq => ?_) fun e s' hq => hq)
    obtain ⟨w', H', J', rv, q⟩ := hq
    exact ⟨w', H', J'.os, J'.bare, J'.base, J'.hok, rv, q⟩
  rcases W.args with ⟨a1, a2, rfl⟩ | ⟨ar, i, a1, a2, rfl⟩
  · rcases hd with ⟨_, rfl⟩ | ⟨t, _, ht⟩
    · refine bind0 W.pos a1 W.var W.kwo W.kwa rfl ?_
      rw [a2] at main
      exact main [] .nil rfl
    · rename_i hdd _
      have hno : dV = .ref t := by assumption
      subst hno
      -- (a tuple of no defaults is never made)
      obtain ⟨hz, its, rv, oT, hoT, hcT, n, hdT⟩ := (show ObjOk P w H s.heap t (.tup (L.dvs.map V.int)) from e0.hok t _ ht)
      rw [a2] at rv
      cases rv
      unfold bindArgs
      simp only [W.pos, a1, W.var, W.kwo, W.kwa, List.map_nil, List.nil_append, List.append_nil, List.length_nil, List.zip_nil_right, List.forIn_nil, pure_bind]
      refine wpAny_bind (wpAny_seqItems hoT hdT ?_)
      simp
      refine wpAny_pure ?_
      rw [a2] at main
      exact main [] .nil rfl
  · rcases hd with ⟨z, _⟩ | ⟨t, rfl, ht⟩
    · rw [a2] at z; cases z
    · obtain ⟨hz, its, rv, oT, hoT, hcT, n, hdT⟩ := (show ObjOk P w H s.heap t (.tup (L.dvs.map V.int)) from e0.hok t _ ht)
      rw [a2] at rv main
      cases rv with
      | @cons _ u _ ur ra rn =>
        cases rn
        refine bind1 W.pos a1 W.var W.kwo W.kwa rfl hoT hdT ?_
        exact main [u] (.cons ra .nil) rfl
end
/-! ### what a lambda does -/
/-- el: what is known of the captured names; cs: the things that may change -/
structure LamOk (P : Program) (w : World) (K : PySem.W.Frag) (mg : Str → Option Value) (base : Heap) (k : Nat) (L : LamF) (fr : List Str) (M : Addr → Prop) (el : DE) (cs : Cs) (out : Out) (cs' : Cs) : Prop where
  ex : ∃ N ps, NScope N ps fr L.scope ∧ LamW L ps ∧ el.length = fr.length ∧ ∀ (A : Around) (outer : List Env) (s : Shared) (H : Hp) (E : XK) (f c' : Addr), Room k (A.deeper (envF (nfOf L c') f s.heap.objs.size)) →
    match out with
    | .ok d => EE (lcx P w K mg base N L c' f A outer s H E) M (L.dvs.map (fun i => some (.int i)) ++ (el ++ List.replicate (N.length - L.dvs.length - el.length) none)) cs L.body d cs'
    | .err x => EX (lcx P w K mg base N L c' f A outer s H E) M (L.dvs.map (fun i => some (.int i)) ++ (el ++ List.replicate (N.length - L.dvs.length - el.length) none)) cs L.body x cs'
/-- what the cells hold bears the data el -/
structure Holds (K : PySem.W.Frag) (mg : Str → Option Value) (M : Addr → Prop) (H : Hp) (el : DE) (ws : List (Option V)) : Prop where
  len : ws.length = el.length
  at_ : ∀ (i : Nat) (d : D), el[i]? = some (some d) → ∃ v, ws[i]? = some (some v) ∧ R K mg M H v d
theorem Holds.ext {K : PySem.W.Frag} {mg : Str → Option Value} {M M' : Addr → Prop} {H H' : Hp} {el : DE} {ws : List (Option V)} (h : Holds K mg M H el ws) (k : ∀ a o, ¬ M a → H a = some o → H' a = some o) (m : ∀ a, ¬ M a → H a ≠ none → ¬ M' a) : Holds K mg M' H' el ws :=
  ⟨h.len, fun i d q => by
    obtain ⟨v, e, r⟩ := h.at_ i d q
    exact ⟨v, e, R.ext k m _ r⟩⟩
section
variable {P : Program} {w : World} {K : PySem.W.Frag} {mg : Str → Option Value} {base : Heap} {L : LamF} {fr : List Str} {M : Addr → Prop} {el : DE} {cs cs' : Cs} {k : Nat}
theorem sit_lamstart {H : Hp} {N : List Str} {ws : List (Option V)} (mt : ∀ a, M a → H a ≠ none) (hw : Holds K mg M H el ws) (cel : ∀ p ∈ cs, M p.1 ∧ Cell K mg M H p.1 p.2) (nd : (dom cs).Nodup) :
    Sit K mg M (startF N (L.dvs.map V.int) ws) H (L.dvs.map (fun i => some (.int i)) ++ (el ++ List.replicate (N.length - L.dvs.length - el.length) none)) cs where
  mt := mt
  len := by
    have := hw.len
    simp [startF, this]
  env := fun i d q => by
    unfold startF
    by_cases h1 : i < L.dvs.length
    · rw [List.getElem?_append_left (by simpa using h1)] at q ⊢
      · rw [List.getElem?_map] at q
        cases e : L.dvs[i]? with
        | none => rw [e] at q; cases q
        | some z =>
          rw [e] at q
          cases q
          exact ⟨.int z, by simp [e], by simp [R]⟩
    · rw [List.getElem?_append_right (by simpa using h1)] at q ⊢
      · simp only [List.length_map] at q ⊢
        by_cases h2 : i - L.dvs.length < el.length
        · rw [List.getElem?_append_left h2] at q
          rw [List.getElem?_append_left (by rw [hw.len]; exact h2)]
          exact hw.at_ _ d q
        · rw [List.getElem?_append_right (by omega), List.getElem?_replicate] at q
          split at q <;> cases q
  cel := cel
  nd := nd
/-- the call of a lambda, its cells as they are -/
theorem lam_call {v : V} {A : Around} {outer : List Env} {s : Shared} {H : Hp} {ws : List (Option V)} {Q : VK} {E : XK} {out : Out} (F : LamOk P w K mg base k L fr M el cs out cs') (hr : Room (k + 1) A) (e0 : Env0 P w K mg base A outer s H) (hl : Lams M H v L) (C : CellsAt L.cl fr ws s.heap H) (hw : Holds K mg M H el ws)
    (mt : ∀ a, M a → H a ≠ none) (cel : ∀ p ∈ cs, M p.1 ∧ Cell K mg M H p.1 p.2) (nd : (dom cs).Nodup) (hM : ∀ p ∈ cs', M p.1) (kq : OutK K mg M (dom cs) H cs' Q E out) :
    ∃ f, v = .ref f ∧ codeAny (model P w) A (.call (.ref f) ⟨[], []⟩) (CR (L2.CX P w) outer P w H s Q E) s := by
  obtain ⟨N, ps, S, W, le, F⟩ := F.ex
  obtain ⟨f, c', dV, rfl, _, hf, _, hc, hd⟩ := hl
  refine ⟨f, rfl, lam_run S W hr e0 hf hc (hd.imp_right fun ⟨t, a, _, b⟩ => ⟨t, a, b⟩) C fun hr2 => ?_⟩
  have F2 := F A outer s H E f c' hr2
  have ST := sit_lamstart (N := N) (L := L) mt hw cel nd
  cases out with
  | ok d => exact F2.k _ H Q ST fun v H' S1 x1 r1 => kq v H' S1.mt x1 (fun p hp => S1.cel p hp) r1
  | err x => exact F2.k _ H (fun cls d _ H => E cls d H) Q (takes_of rfl rfl rfl rfl) ST fun cls d H' S1 x1 r1 => kq cls d H' S1.mt x1 (fun p hp => S1.cel p hp) r1
end
end Od

set_option Elab.async false
set_option linter.all false
set_option maxRecDepth 100000
set_option maxHeartbeats 4000000
/-! Ol3: try .. except (A, B, C) as n; calls within the except suite; fields of the caught error. -/
namespace Od
open PySem L2 L2H PyProof.Rows
/-- what such a clause wishes of an error of the body -/
def wT3 (K : PySem.W.Frag) (cs : List Value) (i : Nat) (ts : Addr → Value → Option Addr → TS) (Wout : WX) (D : Ends) : WX := fun cls d σ H =>
  ∃ b, PySem.W.exmAny K cls cs = some b ∧ (b = true → ∀ a, H a = none → ts a cls d { nx := fun σ' H' => D.nx (σ'.set i none) H', rt := D.rt, bk := fun σ' H' => D.bk (σ'.set i none) H', ct := fun σ' H' => D.ct (σ'.set i none) H' } (σ.set i (some (.ref a))) H) ∧ (b = false → Wout cls d σ H)
section
variable {X : Cx} {x1 x2 x3 n : Str} {C1 C2 C3 : Addr} {i : Nat} {body suite : List Stmt} {b₀ : Stmt} {p1 p2 p3 tp pos pos' : Pos} {kk : Nat} {tb : WX → TS} {ts : Addr → Value → Option Addr → TS} {Wout : WX}
abbrev hand3 (x1 x2 x3 n : Str) (p1 p2 p3 tp pos' : Pos) (kk : Nat) (suite : List Stmt) : ExceptHandler := .ExceptHandler (some (.Tuple [.Name x1 p1, .Name x2 p2, .Name x3 p3] kk tp)) (some n) suite pos'
/-- a class of the module's that a clause names -/
structure Nm (X : Cx) (x : Str) (C : Addr) : Prop where
  gl : Gl X x
  db : (x == ("__debug__" : Str)) = false
  mg : X.mg x = some (.ref C)
theorem ps_try3 (hs : X.stack = X.env :: X.outer) (hf : X.env.frame = some X.env.locals) (hN : X.N.Nodup) (hi : X.N[i]? = some n) (hln : X.env.kindOf n = some .local) (n1 : Nm X x1 C1) (n2 : Nm X x2 C2) (n3 : Nm X x3 C3) (tk : Takes X Wout)
    (hst : ∀ E : Env, starEach [.Name x1 p1, .Name x2 p2, .Name x3 p3] E = [(false, eval (.Name x1 p1) E), (false, eval (.Name x2 p2) E), (false, eval (.Name x3 p3) E)])
    (hb : ∀ (W : WX) (pn : List (Addr × Obj)) (xe : Value → Shared → Prop), Takes (X.tr pn xe) W → PassesOwn (model X.prog X.w) X.A X.env xe → PSs (X.tr pn xe) body (tb W))
    (hsu : ∀ (a : Addr) (oe : Obj) (cls : Value) (d : Option Addr) (pn : List (Addr × Obj)), Zc cls d oe → (∃ vs, oe.data = .fields vs) → PSs (X.suite a ((a, oe) :: pn)) (b₀ :: suite) (ts a cls d)) :
    PS X (.Try body [hand3 x1 x2 x3 n p1 p2 p3 tp pos' kk (b₀ :: suite)] [] [] pos) (fun D σ H => tb (wT3 X.K [.ref C1, .ref C2, .ref C3] i ts Wout D) D σ H) := by
  refine ⟨fun pins s σ H D I h => ?_⟩
  have ok := I.ok
  have hfr : X.A.frames = some (X.env :: X.outer) := ok.frames.trans (by rw [hs])
  refine wpAny_Try_except (wpAny_mono ((hb (wT3 X.K [.ref C1, .ref C2, .ref C3] i ts Wout D) (X.pn ++ pins) (fun e s₁ => wpAny (model X.prog X.w) X.A (noteFrame e X.env) (fun _ s₂ => wpAny (model X.prog X.w) X.A (setFlight e none) (fun _ s₃ =>
    wpAny (model X.prog X.w) X.A (handleBy e X.env [hand3 x1 x2 x3 n p1 p2 p3 tp pos' kk (b₀ :: suite)]) (SP X pins D) X.xe s₃) X.xe s₂) X.xe s₁) (fun u s' xx => ?_) PassesOwn.looking).run [] s σ H D (I.toTry _) h) (fun f s1 hsp => ?_) (fun e s1 he => he))
  · obtain ⟨a, B, sI, pins', σ', H', cls, d, rfl, J', nb, up, sky, na, os, ag, b, hb1, hyes, hno⟩ := xx
    have J : Inv X pins σ' H' sI := J'.ofTry ok
    have sky' : Sky B (X.env :: X.outer) a (Zc cls d) X.env.locals s'.heap := hs ▸ sky
    show wpAny (model X.prog X.w) X.A (noteFrame (.ref a) X.env) _ _ _
    refine Sky.land Zc.steady hfr hf sky' fun h3 fl3 up3 => ?_
    obtain ⟨oe3, vs3, he3, hz3, hd3⟩ := fl3.there
    have nfr : a ∉ frs (X.env :: X.outer) := fun hm => by
      obtain ⟨_, o', e', hnf⟩ := fl3.2.2.1.mem hm
      rw [he3] at e'; cases e'
      exact hnf _ hd3
    have nL : a ≠ X.env.locals := fun z => nfr (List.mem_filterMap.mpr ⟨X.env, List.mem_cons_self, hf.trans (by rw [z])⟩)
    have nF : a ∉ X.fs := fun hm => let ⟨e, he, q⟩ := List.mem_filterMap.mp hm; nfr (List.mem_filterMap.mpr ⟨e, List.mem_cons_of_mem _ he, q⟩)
    have S3 := (J.landed nb fl3.1 (up.trans up3) os ag : Inv X pins σ' H' { s' with heap := h3 }).suite he3 hd3 na nL nF
    -- the clause's tuple
    refine wpAny_handleBy_cons (codeAny_handlers_test ?_) (by intro q; cases q)
    refine wpAny_Tuple_spliced ?_
    have nm : ∀ {x : Str} {C : Addr} {p : Pos} {Q : Value → Shared → Prop} {E : Value → Shared → Prop}, Nm X x C → Q (.ref C) { s' with heap := h3 } → wpAny (model X.prog X.w) (X.A.mark (some (.ref a))) (eval (.Name x p) X.env) Q E { s' with heap := h3 } :=
      fun z q => ld_glob (X := X.suite a ((a, oe3) :: (X.pn ++ pins))) S3 z.gl z.mg q z.db
    rw [hst]
    refine PySem.Calls.spliced_cons (nm n1 (PySem.Calls.spliced_cons (nm n2 (PySem.Calls.spliced_cons (nm n3 (PySem.Calls.spliced_nil ⟨by rw [sizeLine_eq]; exact (by decide : 3 ≤ 16777216), ?_⟩))))))
    -- the ground with the tuple on it
    have fl5 : HandSPX.FlyingZ B (X.env :: X.outer) a (Zc cls d) (h3.push { cls := .type "tuple", data := .seq ([Value.ref C1, .ref C2, .ref C3] : List Value).toArray }) := by
      obtain ⟨k1, k2, k3, oe, vs, T, oT, ts', q1, q2, q3, q4, q5, q6, q7, q8, q9⟩ := fl3
      refine ⟨fun b o e => Heap.get?_push_of_some _ (k1 b o e), k2, Heap.FunFrames.of_keeps (fun b o e _ => ⟨o, Heap.get?_push_of_some _ e, rfl⟩) k3, oe, vs, T, oT, ts', Heap.get?_push_of_some _ q1, q2, q3, q4, q5, q6, Heap.get?_push_of_some _ q7, q8, q9⟩
    have up5 : h3.UpToSlots (h3.push { cls := .type "tuple", data := .seq ([Value.ref C1, .ref C2, .ref C3] : List Value).toArray }) := Heap.UpToSlots.of_keeps fun b o e => Heap.get?_push_of_some _ e
    have et : (h3.push { cls := .type "tuple", data := .seq ([Value.ref C1, .ref C2, .ref C3] : List Value).toArray }).get? h3.objs.size = some { cls := .type "tuple", data := .seq ([Value.ref C1, .ref C2, .ref C3] : List Value).toArray } := Heap.get?_push_size _ rfl
    generalize h3.push { cls := .type "tuple", data := .seq ([Value.ref C1, .ref C2, .ref C3] : List Value).toArray } = h5 at fl5 up5 et
    obtain ⟨oe5, vs5, he5, hz5, hd5⟩ := fl5.there
    have G5 : Inv X pins σ' H' { s' with heap := h5 } := J.landed nb fl5.1 ((up.trans up3).trans up5) os ag
    have LT : PySem.W.Looks (model X.prog X.w) h5 (typeOf (.ref a)) cls := fun A Q E s k q => wpAny_typeOf_ref (k _ _ he5) (hz5.1 ▸ q)
    refine (PySem.W.exm_tup3 (M := model X.prog X.w) G5.kIn LT et hb1).here ?_
    cases b with
    | true =>
      refine codeAny_handlers_suite_as (HandSPX.lands_againZ fl5 fun h4 fl4 up4 => ?_)
      obtain ⟨oe4, vs4, he4, hz4, hd4⟩ := fl4.there
      have S4 := (J.landed nb fl4.1 (((up.trans up3).trans up5).trans up4) os ag : Inv X pins σ' H' { s' with heap := h4 }).suite he4 hd4 na nL nF
      refine store_ok (X := X.suite a ((a, oe4) :: (X.pn ++ pins))) (v := .ref a) S4 hN hi (.inl hln) rfl (fun s5 S5 => ?_) (.inr hln)
      refine wpAny_mono ((hsu a oe4 cls d (X.pn ++ pins) hz4 ⟨_, hd4⟩).run [] s5 _ H' _ S5 (hyes rfl a na)) (fun f s6 hsp => ?_) (fun _ _ z => z.elim)
      have fin : ∀ {σ6 : L2.St} {H6 : Hp} {Q : Shared → Prop}, Inv (X.suite a ((a, oe4) :: (X.pn ++ pins))) [] σ6 H6 s6 → (∀ s7, Inv X pins (σ6.set i none) H6 s7 → Q s7) → wpAny (model X.prog X.w) X.A (do bindName X.env n .none; unbindBehindTheSuite X.env n pos') (fun _ s7 => Q s7) X.xe s6 := fun S6 hq => gone_ok (S6.unsuite ok) hN hi hln hq
      cases f with
      | ret u => obtain ⟨v6, σ6, H6, S6, r6, q6⟩ := hsp; exact fin S6 fun s7 J7 => ⟨_, _, _, J7, r6, q6⟩
      | next => obtain ⟨σ6, H6, S6, q6⟩ := hsp; exact fin S6 fun s7 J7 => ⟨_, _, J7, q6⟩
      | brk => obtain ⟨σ6, H6, S6, q6⟩ := hsp; exact fin S6 fun s7 J7 => ⟨_, _, J7, q6⟩
      | cont => obtain ⟨σ6, H6, S6, q6⟩ := hsp; exact fin S6 fun s7 J7 => ⟨_, _, J7, q6⟩
    | false =>
      refine wpAny_handleBy_nil (M := model X.prog X.w) (A := X.A) ?_
      obtain ⟨k1, k2, k3, oe, vs, T, oT, ts', he, hz, hd, h1, hr⟩ := id fl5
      unfold PySem.passOn
      refine wpAny_bind (wpAny_field he hd h1 ?_)
      rw [if_neg (by simp)]
      have fin : wpAny (model X.prog X.w) X.A (setFlight (.ref a) X.env.frame) (fun _ s4 => wpAny (model X.prog X.w) X.A (throw (.ref a) : Sem Flow) (SP X pins D) X.xe s4) X.xe { s' with heap := h5 } := by
        rw [hf]
        exact HandSPX.setFlight_upZ fl5 fun h4 hh4 up4 => wpAny_throw (tk _ _ ⟨a, B, sI, pins, σ', H', cls, d, rfl, J, nb, ((up.trans up3).trans up5).trans up4, .inr (.inr (hs ▸ hh4)), na, os, ag, hno rfl⟩)
      first | exact wpAny_bind (wpAny_pure (wpAny_bind fin)) | exact wpAny_bind fin
  · cases f with
    | ret u => obtain ⟨v, σ', H', J', r, q⟩ := hsp; exact ⟨v, σ', H', J'.ofTry ok, r, q⟩
    | next => obtain ⟨σ', H', J', q⟩ := hsp; exact wpAny_execs_nil ⟨σ', H', J'.ofTry ok, q⟩
    | brk => obtain ⟨σ', H', J', q⟩ := hsp; exact ⟨σ', H', J'.ofTry ok, q⟩
    | cont => obtain ⟨σ', H', J', q⟩ := hsp; exact ⟨σ', H', J'.ofTry ok, q⟩
theorem ps_try3w (hs : X.stack = X.env :: X.outer) (hf : X.env.frame = some X.env.locals) (hN : X.N.Nodup) (hi : X.N[i]? = some n) (hln : X.env.kindOf n = some .local) (n1 : Nm X x1 C1) (n2 : Nm X x2 C2) (n3 : Nm X x3 C3) (tk : Takes X Wout)
    (hst : ∀ E : Env, starEach [.Name x1 p1, .Name x2 p2, .Name x3 p3] E = [(false, eval (.Name x1 p1) E), (false, eval (.Name x2 p2) E), (false, eval (.Name x3 p3) E)]) :
    PS X (.Try body [hand3 x1 x2 x3 n p1 p2 p3 tp pos' kk (b₀ :: suite)] [] [] pos) (fun D σ H => ∀ pn xe, Takes (X.tr pn xe) (wT3 X.K [.ref C1, .ref C2, .ref C3] i (fun a cls d D σ H => ∀ oe pn, Zc cls d oe → (∃ vs, oe.data = .fields vs) → wSs (X.suite a ((a, oe) :: pn)) (b₀ :: suite) D σ H) Wout D) → wSs (X.tr pn xe) body D σ H) :=
  ps_try3 hs hf hN hi hln n1 n2 n3 tk hst (tb := fun W D σ H => ∀ pn xe, Takes (X.tr pn xe) W → wSs (X.tr pn xe) body D σ H) (fun W pn xe tk hp => ⟨fun pins s σ H D I h => (h pn xe tk).h pins s I⟩) fun a oe cls d pn hz hf => ⟨fun pins s σ H D I h => (h oe pn hz hf).h pins s I⟩
end
end Od

set_option Elab.async false
set_option linter.all false
set_option maxRecDepth 100000
set_option maxHeartbeats 4000000
/-! Ol4: fields of a caught error; a def called while an error is handled; a lambda that was handed in is called. -/
namespace Od
open PySem L2 L2H PyProof.Rows NdefX
section
variable {X : Cx} {M : Addr → Prop} {e : DE} {cs cs1 cs2 cs' : Cs} {pos p : Pos} {ex : Expr} {ns : List Str} {ds : List D} {d : D} {m n : Str} {a dd C : Addr} {k : Nat}
/-- the error stands at a, of the class C, its dict at dd -/
def ExcAt (X : Cx) (a dd C : Addr) : Prop := ∀ (pins : List (Addr × Obj)) (σ : L2.St) (H : Hp) (s : Shared), Inv X pins σ H s → ∃ oe, s.heap.get? a = some oe ∧ oe.cls = .ref C ∧ oe.dict = some dd ∧ ∃ vs, oe.data = .fields vs
theorem excAt_pin {oe : Obj} (hp : (a, oe) ∈ X.pn) (hz : Zc (.ref C) (some dd) oe) (hf : ∃ vs, oe.data = .fields vs) : ExcAt X a dd C := fun pins σ H s I => ⟨oe, (I.pin (a, oe) (List.mem_append_left _ hp)).1, hz.1, hz.2, hf⟩
/-- n.f, n an error -/
theorem e_xat (T : XfC X.K C) (hno : PySem.W.findIn X.K (.ref C) m = some none) (ho : ExcAt X a dd C) (ha : EE X M e cs ex (.exc a dd ns ds) cs1) (i : Nat) (hi : ns.idxOf? m = some i) (hd : ds[i]? = some d) (hb : attributeBase ex m X.env (eval ex X.env) = eval ex X.env := by rfl) : EE X M e cs (.Attribute ex m pos) d cs1 where
  dm := ha.dm
  k := fun σ H Q S k pins s I => by
    refine attr_of hb (thn (ha.k σ H (fun v H1 => Sit X.K X.mg M σ H1 e cs1 ∧ Ext (dom cs) H H1 ∧ R X.K X.mg M H1 v (.exc a dd ns ds)) S (fun v H1 S1 x1 r1 => ⟨S1, x1, r1⟩) pins s I) fun u s1 ⟨x, H1, I1, rx, S1, x1, r1⟩ => ?_)
    unfold R at r1
    obtain ⟨xs, rfl, nm, h1, hl, rs⟩ := r1
    obtain rfl : u = Value.ref a := rx
    obtain ⟨v, hv, rv⟩ := rs.get hd
    obtain ⟨oe, g1, g2, g3, vs, g4⟩ := ho _ _ _ _ I1
    obtain ⟨mA, hns, hr⟩ := (show ObjOk X.prog X.w H1 s1.heap dd (.xd (ns.zip xs)) from I1.hok dd _ h1)
    obtain ⟨od, q1, q2⟩ := lookIn_ns hns
    have l : (ns.zip xs).lookup m = some v := zip_lookup hi hv
    obtain ⟨w, hw, rw'⟩ := RelO.some_of (v := v) (o := mA m) (l ▸ hr m)
    have J : PySem.W.InstAt s1.heap a oe C (some od) := ⟨g1, g2, by unfold PySem.W.notCls; rw [g4] <;> rfl, by rw [g3]; exact q1⟩
    exact HandSPX.exc_get I1.kIn J T.ga T.gg T.exC (PySem.W.findObj_own T.hdC hno rfl (by rw [q2, hw])) (handed_of rw') ⟨v, H1, I1.tok _, rw', k v H1 S1 x1 rv⟩
end
section
variable {P : Program} {w : World} {K : PySem.W.Frag} {mg : Str → Option Value} {base : Heap} {x qual : Str} {st : Stmt} {f : Addr} {fd : FuncData} {N ps : List Str} {k : Nat}
/-- a def called while p's error is handled -/
theorem run_hot (F : Fun K x qual st f fd) (S : FnScope N ps (defScope st)) (hb : Binds K fd ps []) {A : Around} {outer : List Env} {s : Shared} {H : Hp} {us : List Value} {vs : List V} {Q : VK} {E : XK} {p : Addr × Obj} (hr : RoomH (k + 1) A) (hpin : PinOk outer H s p) (e0 : Env0 P w K mg base A outer s H) (r : Vals vs us) (hl : vs.length = ps.length)
    (hbody : ∀ cdv : Value, RoomH k (A.deeper (envOfC qual (defScope st) s.heap.objs.size f cdv)) → wSs (cxH (L2.CX P w) P w K mg base N qual (defScope st) f cdv A outer s H E p) (defBody st) { nx := fun _ H' => Q .non H', rt := Q } (L2.start N vs) H) :
    codeAny (model P w) A (.call (.ref f) ⟨us, []⟩) (CR (L2.CX P w) outer P w H s Q E) s := by
  have KX : K.In s.heap := e0.mod.kin.keeps fun b o e => (e0.bs b o e).1
  have lim : s.heap.NoLimit := e0.mod.nolimit.keeps fun b o e => (e0.bs b o e).1
  have hbt := hb s us KX (by rw [List.append_nil, ← r.length]; exact hl)
  rw [List.append_nil] at hbt
  obtain ⟨oc, od, kV, doc, pm, an, cdv, ct, osl, rfl, lk, hcd⟩ := F.ex
  have hkind : ∀ y ∈ ps.zip us, (defScope st).names.lookup y.1 = some .local ∨ ((defScope st).names.lookup y.1 = some .cell ∧ ((cellsFrom (s.heap.objs.size + 1) (defScope st).names []).lookup y.1).isSome = true) := fun ⟨n, v⟩ hy =>
    (S.par n (List.of_mem_zip hy).1).imp_right fun q => ⟨q, PySem.W.cellsFrom_some _ _ _ (.inl q)⟩
  refine codeAny_call_function hr.depth (KX _ _ lk) rfl S.co S.gen rfl (PySem.W.codeRec_of KX hcd) (hbt _ _ _ _ (wpAny_newFunctionEnv_cells S.kind hkind fun env he s1 x => ?_))
  subst he
  refine ⟨lim.keeps x.toInCall.keep, codeAny_func ?_⟩
  have I : Inv (cxH (L2.CX P w) P w K mg base N qual (defScope st) f cdv A outer s H E p) [] (L2.start N vs) H s1 := inv_startH S hpin e0 hl r x
  refine wpAny_mono ((hbody cdv (hr.deeper _)).h [] s1 I) (fun fl s' hs => ?_) fun e s' hs => hs
  cases fl with
  | ret u =>
    obtain ⟨v, σ', H', J, rv, q⟩ := hs
    exact ⟨v, H', J.os, J.bare, J.base, J.hok, rv, q⟩
  | next =>
    obtain ⟨σ', H', J, q⟩ := hs
    exact ⟨.non, H', J.os, J.bare, J.base, J.hok, rfl, q⟩
  | brk => obtain ⟨_, _, _, q⟩ := hs; exact q.elim
  | cont => obtain ⟨_, _, _, q⟩ := hs; exact q.elim
/-- a def called in a known state -/
theorem run_cold (F : Fun K x qual st f fd) (S : FnScope N ps (defScope st)) (hb : Binds K fd ps []) {A : Around} {outer : List Env} {s : Shared} {H : Hp} {us : List Value} {vs : List V} {Q : VK} {E : XK} (hr : Room (k + 1) A) (e0 : Env0 P w K mg base A outer s H) (r : Vals vs us) (hl : vs.length = ps.length)
    (hbody : ∀ cdv : Value, Room k (A.deeper (envOfC qual (defScope st) s.heap.objs.size f cdv)) → wSs (cxOf (L2.CX P w) P w K mg base N qual (defScope st) f cdv A outer s H E) (defBody st) { nx := fun _ H' => Q .non H', rt := Q } (L2.start N vs) H) :
    codeAny (model P w) A (.call (.ref f) ⟨us, []⟩) (CR (L2.CX P w) outer P w H s Q E) s := by
  have KX : K.In s.heap := e0.mod.kin.keeps fun b o e => (e0.bs b o e).1
  have hbt := hb s us KX (by rw [List.append_nil, ← r.length]; exact hl)
  rw [List.append_nil] at hbt
  obtain ⟨oc, od, kV, doc, pm, an, cdv, ct, osl, rfl, lk, hcd⟩ := F.ex
  exact LamX.run_ofS lk hcd S hr e0 hbt r hl fun hr2 => ⟨_, pss_w, hbody cdv hr2⟩
end
/-! ### errors told: code, field -/
abbrev inS (code : Str) (l : List Str) : Bool := inV (.str code) (l.map V.str)
def fieldNm (code : Str) : Option Str :=
  if inS code ["InvalidFormula", "InvalidLetters", "InvalidNode", "InvalidProfile", "InvalidLimit"] then some "given"
  else if inS code ["InvalidName", "DuplicateName", "WrongKind", "CircularName", "Oversized", "Refused", "UnknownName"] then some "name"
  else if inS code ["TooMany", "TooLong", "Full"] then some "limit"
  else if inS code ["InvalidTree", "InvalidFilling"] then (if code = "InvalidTree" then some "index" else some "key")
  else if inS code ["NotExtensible", "NotSolving"] then (if code = "NotExtensible" then some "meet" else some "refuting")
  else if inS code ["NameInUse", "InvalidCommand"] then (if code = "NameInUse" then some "user" else some "first")
  else if code = "InvalidPage" then some "line" else none
def fieldD (code : Str) (ns : List Str) (ds : List D) : D := match fieldNm code with
  | none => .non
  | some n => match ns.idxOf? n with
    | none => .non
    | some i => ds.getD i .non
def codeOf (x : Xc) : Str := match x.ds with
  | .str c :: _ => c
  | _ => ""
/-- what a call tried gives -/
def tryD : Out → D
  | .ok d => .tup [.str "value", d]
  | .err x => .tup [.str (codeOf x), fieldD (codeOf x) x.ns x.ds]
/-- what the written part says of an error's class -/
structure XErr (K : PySem.W.Frag) (C : Addr) (x : Xc) : Prop where
  xf : XfC K C
  c0 : x.ns.idxOf? ("code" : Str) = some 0
  d0 : x.ds[0]? = some (.str (codeOf x))
  nc : PySem.W.findIn K (.ref C) "code" = some none
  fl : ∀ n, fieldNm (codeOf x) = some n → PySem.W.findIn K (.ref C) n = some none ∧ ∃ i d, x.ns.idxOf? n = some i ∧ x.ds[i]? = some d
/-- the tried call's errors are caught -/
def Caught (K : PySem.W.Frag) (mg : Str → Option Value) : Out → Prop
  | .ok _ => True
  | .err x => ∃ C C1 C2 C3, mg x.c = some (.ref C) ∧ mg "RootError" = some (.ref C1) ∧ mg "Missing" = some (.ref C2) ∧ mg "NothingLeft" = some (.ref C3) ∧ PySem.W.exmAny K (.ref C) [.ref C1, .ref C2, .ref C3] = some true ∧ XErr K C x
/-- _law_field, called while an error is handled -/
structure FieldOk (P : Program) (w : World) (K : PySem.W.Frag) (mg : Str → Option Value) (base : Heap) (k : Nat) : Prop where
  ex : ∃ f, mg "_law_field" = some (.ref f) ∧ PySem.W.keepIn K (.ref f) = true ∧ ∀ (A : Around) (outer : List Env) (s : Shared) (H : Hp) (M : Addr → Prop) (a dd C : Addr) (oe : Obj) (x : Xc) (Q : VK) (E : XK), RoomH k A → PinOk outer H s (a, oe) → Env0 P w K mg base A outer s H → Zc (.ref C) (some dd) oe → (∃ vs, oe.data = .fields vs) →
    (∀ a, M a → H a ≠ none) → R K mg M H (.ref a) (.exc a dd x.ns x.ds) → XErr K C x → OutK K mg M [] H [] Q E (.ok (fieldD (codeOf x) x.ns x.ds)) → codeAny (model P w) A (.call (.ref f) ⟨[.ref a], []⟩) (CR (L2.CX P w) outer P w H s Q E) s
/-- _law_try, handed a lambda -/
structure TryOk (P : Program) (w : World) (K : PySem.W.Frag) (mg : Str → Option Value) (base : Heap) (kl k : Nat) : Prop where
  ex : ∃ f, mg "_law_try" = some (.ref f) ∧ PySem.W.keepIn K (.ref f) = true ∧ ∀ (A : Around) (outer : List Env) (s : Shared) (H : Hp) (M : Addr → Prop) (v : V) (u : Value) (L : LamF) (fr : List Str) (el : DE) (ws : List (Option V)) (cs cs' : Cs) (out : Out) (Q : VK) (E : XK), Room k A → Env0 P w K mg base A outer s H → L2.RelV v u → Lams M H v L →
    CellsAt L.cl fr ws s.heap H → (∀ y c, L.cl.lookup y = some c → c ∉ frs outer) → Holds K mg M H el ws → (∀ a, M a → H a ≠ none) → (∀ p ∈ cs, M p.1 ∧ Cell K mg M H p.1 p.2) → (dom cs).Nodup → LamOk P w K mg base kl L fr M el cs out cs' → dom cs' = dom cs → Caught K mg out → OutK K mg M (dom cs) H cs' Q E (.ok (tryD out)) →
    codeAny (model P w) A (.call (.ref f) ⟨[u], []⟩) (CR (L2.CX P w) outer P w H s Q E) s
section
variable {X : Cx} {M : Addr → Prop} {e : DE} {cs cs1 cs2 cs' : Cs} {pos p : Pos} {a ex : Expr} {d : D} {n : Str} {k kl : Nat} {L : LamF} {fr : List Str} {el : DE} {out : Out}
theorem fnAt_lam {pins : List (Addr × Obj)} {σ : L2.St} {H : Hp} {s : Shared} {f c' : Addr} {dV : Value} (I : Inv X pins σ H s) (h : H f = some (LamO f L dV c')) : PySem.W.FnAt f s.heap := by
  obtain ⟨⟨pm, ctv, ho⟩, _, _⟩ := I.hok f _ h
  exact ⟨_, _, _, _, ho⟩
/-- the cells of L hold ws, in every state of this frame with the slots σ -/
def CapR (X : Cx) (σ : L2.St) (L : LamF) (fr : List Str) (ws : List (Option V)) : Prop := ∀ (pins : List (Addr × Obj)) (s : Shared) (H' : Hp), Inv X pins σ H' s → CellsAt L.cl fr ws s.heap H' ∧ ∀ y c, L.cl.lookup y = some c → c ∉ frs X.stack
theorem mem_dom {K : PySem.W.Frag} {mg : Str → Option Value} {σ : L2.St} {H : Hp} (S : Sit K mg M σ H e cs) (hM : dom cs' = dom cs) : ∀ p ∈ cs', M p.1 := fun p hp => by
  have : p.1 ∈ dom cs := by rw [← hM]; exact List.mem_map_of_mem (f := (·.1)) hp
  obtain ⟨q, hq, e⟩ := List.mem_map.mp this
  rw [← e]; exact (S.cel q hq).1
/-- x(), x a name that holds a lambda -/
theorem ask_raw {σ : L2.St} {H : Hp} {Q : VK} {ws : List (Option V)} (F : LamOk X.prog X.w X.K X.mg X.base kl L fr M el cs (.ok d) cs') (hdm : dom cs' = dom cs) (S : Sit X.K X.mg M σ H e cs) (cp : CapR X σ L fr ws) (hw : Holds X.K X.mg M H el ws) (hr : Room (kl + 1) X.A) (i : Nat) (hi : e[i]? = some (some (.lam L))) (hN : X.N[i]? = some n) (hv : Vis X.env.scope n)
    (h1 : (n == ("__debug__" : Str)) = false) (h2 : (n == ("__classdict__" : Str)) = false) (k : ∀ v H', Sit X.K X.mg M σ H' e cs' → Ext (dom cs) H H' → R X.K X.mg M H' v d → Q v H') : wE X (.Call (.Name n p) [] [] pos) σ H Q := fun pins s I => by
    obtain ⟨v, hs, r⟩ := S.env i _ hi
    have r0 := r
    unfold R at r
    obtain ⟨f, c', dV, rfl, nf, hf, rest⟩ := r
    refine wpAny_Call_Name_kw (thn ((pe_var (pos := p) hN hv h1 h2).run pins s σ H (fun v H1 => v = .ref f ∧ H1 = H) I ⟨.ref f, hs, rfl, rfl⟩) fun u s1 ⟨v, H1, I1, rr, q1, q2⟩ => ?_)
    subst q1
    rw [q2] at I1
    obtain rfl : u = Value.ref f := rr
    refine PySem.W.callWith_F0 (first := []) (fnAt_lam I1 hf) ?_
    obtain ⟨f', e', run⟩ := lam_call (E := E0) (Q := Q) F hr I1.env0 (by unfold R at r0; exact r0) (cp _ _ _ I1).1 hw S.mt S.cel S.nd (mem_dom S hdm) (fun v H' mt xt cl rv => k v H' (S.step hdm xt mt cl) xt rv)
    cases e'
    refine wpAny_call (codeAny_mono run fun r s' hq => ?_)
    cases r with
    | error er => exact (L2.passL (X := X) pins σ H s1 er s' I1 hq)
    | ok fl => cases fl with
      | ret u => exact I1.after hq
      | _ => exact hq.elim
theorem xask_raw {x : Xc} {W : WX} {σ : L2.St} {H : Hp} {Q : VK} {ws : List (Option V)} (F : LamOk X.prog X.w X.K X.mg X.base kl L fr M el cs (.err x) cs') (hdm : dom cs' = dom cs) (tk : Takes X W) (S : Sit X.K X.mg M σ H e cs) (cp : CapR X σ L fr ws) (hw : Holds X.K X.mg M H el ws) (hr : Room (kl + 1) X.A) (i : Nat) (hi : e[i]? = some (some (.lam L))) (hN : X.N[i]? = some n) (hv : Vis X.env.scope n)
    (h1 : (n == ("__debug__" : Str)) = false) (h2 : (n == ("__classdict__" : Str)) = false) (k : ∀ cls dd H', Sit X.K X.mg M σ H' e cs' → Ext (dom cs) H H' → RX X.K X.mg M H' cls dd x → W cls dd σ H') : wE X (.Call (.Name n p) [] [] pos) σ H Q := fun pins s I => by
    obtain ⟨v, hs, r⟩ := S.env i _ hi
    have r0 := r
    unfold R at r
    obtain ⟨f, c', dV, rfl, nf, hf, rest⟩ := r
    refine wpAny_Call_Name_kw (thn ((pe_var (pos := p) hN hv h1 h2).run pins s σ H (fun v H1 => v = .ref f ∧ H1 = H) I ⟨.ref f, hs, rfl, rfl⟩) fun u s1 ⟨v, H1, I1, rr, q1, q2⟩ => ?_)
    subst q1
    rw [q2] at I1
    obtain rfl : u = Value.ref f := rr
    refine PySem.W.callWith_F0 (first := []) (fnAt_lam I1 hf) ?_
    obtain ⟨f', e', run⟩ := lam_call (E := fun cls d H => W cls d σ H) (Q := Q) F hr I1.env0 (by unfold R at r0; exact r0) (cp _ _ _ I1).1 hw S.mt S.cel S.nd (mem_dom S hdm) (fun cls d H' mt xt cl rv => k cls d H' (S.step hdm xt mt cl) xt rv)
    cases e'
    refine wpAny_call (codeAny_mono run fun r s' hq => ?_)
    cases r with
    | error er => exact passAt tk σ pins H s1 er s' I1 hq
    | ok fl => cases fl with
      | ret u => exact I1.after hq
      | _ => exact hq.elim
/-- _law_try(..) -/
theorem try_raw {σ : L2.St} {H : Hp} {Q : VK} {ws : List (Option V)} (T : TryOk X.prog X.w X.K X.mg X.base kl k) (hr : Room k X.A) (ha : EE X M e cs a (.lam L) cs1) (F : LamOk X.prog X.w X.K X.mg X.base kl L fr M el cs1 out cs2) (hdm : dom cs2 = dom cs1) (S : Sit X.K X.mg M σ H e cs) (cp : CapR X σ L fr ws) (hw : Holds X.K X.mg M H el ws) (hct : Caught X.K X.mg out) (hg : Gl X "_law_try") (he : starEach [a] X.env = (false, eval a X.env) :: starEach [] X.env)
    (k : ∀ v H', Sit X.K X.mg M σ H' e cs2 → Ext (dom cs) H H' → R X.K X.mg M H' v (tryD out) → Q v H') : wE X (.Call (.Name "_law_try" p) [a] [] pos) σ H Q := fun pins s I => by
    obtain ⟨f, hm, hk, run⟩ := T.ex
    refine wpAny_Call_Name_kw (ld_glob I hg hm ?_ (by decide))
    refine PySem.W.callWith_K (h₀ := X.base) I.ok.mod.kin hk ?_ he rfl
    rw [he]
    refine PySem.Calls.spliced_cons (thn (ha.k σ H (fun v H1 => Sit X.K X.mg M σ H1 e cs1 ∧ Ext (dom cs) H H1 ∧ R X.K X.mg M H1 v (.lam L)) S (fun v H1 S1 x1 r1 => ⟨S1, x1, r1⟩) pins s I) fun u s1 ⟨v, H1, I1, rv, S1, x1, r1⟩ => ?_)
    refine PySem.Calls.spliced_nil ⟨I1.kIn, ?_⟩
    obtain ⟨c1, c2⟩ := cp _ _ _ I1
    have hw1 : Holds X.K X.mg M H1 el ws := hw.ext (S.keeps x1) fun _ n _ => n
    refine wpAny_call (codeAny_mono (run X.A X.stack s1 H1 M v u L fr el ws cs1 cs2 out Q E0 hr I1.env0 rv (by unfold R at r1; exact r1) c1 c2 hw1 S1.mt S1.cel S1.nd F hdm hct (fun v H' mt xt cl rv => k v H' (S1.step hdm xt mt cl) (x1.trans (by rw [← ha.dm]; exact xt)) rv)) fun r s' hq => ?_)
    cases r with
    | error er => exact (L2.passL (X := X) pins σ H1 s1 er s' I1 hq)
    | ok fl => cases fl with
      | ret u => exact I1.after hq
      | _ => exact hq.elim
/-- _law_field(e), while e is handled -/
theorem e_field {oe : Obj} {dd C : Addr} {x : Xc} {ad : Addr} (T : FieldOk X.prog X.w X.K X.mg X.base k) (hr : RoomH k X.A) (hpin : (ad, oe) ∈ X.pn) (hz : Zc (.ref C) (some dd) oe) (hf : ∃ vs, oe.data = .fields vs) (hx : XErr X.K C x) (ha : EE X M e cs a (.exc ad dd x.ns x.ds) cs1) (hg : Gl X "_law_field" := by rfl)
    (he : starEach [a] X.env = (false, eval a X.env) :: starEach [] X.env := by rfl) : EE X M e cs (.Call (.Name "_law_field" p) [a] [] pos) (fieldD (codeOf x) x.ns x.ds) cs1 where
  dm := ha.dm
  k := fun σ H Q S k pins s I => by
    obtain ⟨f, hm, hk, run⟩ := T.ex
    refine wpAny_Call_Name_kw (ld_glob I hg hm ?_ (by decide))
    refine PySem.W.callWith_K (h₀ := X.base) I.ok.mod.kin hk ?_ he rfl
    rw [he]
    refine PySem.Calls.spliced_cons (thn (ha.k σ H (fun v H1 => Sit X.K X.mg M σ H1 e cs1 ∧ Ext (dom cs) H H1 ∧ R X.K X.mg M H1 v (.exc ad dd x.ns x.ds)) S (fun v H1 S1 x1 r1 => ⟨S1, x1, r1⟩) pins s I) fun u s1 ⟨v, H1, I1, rv, S1, x1, r1⟩ => ?_)
    refine PySem.Calls.spliced_nil ⟨I1.kIn, ?_⟩
    have r2 := r1
    unfold R at r2
    obtain ⟨xs, rfl, _⟩ := r2
    obtain rfl : u = Value.ref ad := rv
    have P1 := I1.pin (ad, oe) (List.mem_append_left _ hpin)
    have hp2 : PinOk X.stack H1 s1 (ad, oe) := ⟨P1.1, P1.2.1, fun hm => (List.mem_cons.mp (I1.stkSub ad hm)).elim P1.2.2.1 P1.2.2.2.1, P1.2.2.2.2⟩
    refine wpAny_call (codeAny_mono (run X.A X.stack s1 H1 M ad dd C oe x Q E0 hr hp2 I1.env0 hz hf S1.mt r1 hx (fun v H' mt xt _ rv => k v H' (S1.ex xt) (x1.trans (xt.mono (by simp))) rv)) fun r s' hq => ?_)
    cases r with
    | error er => exact (L2.passL (X := X) pins σ H1 s1 er s' I1 hq)
    | ok fl => cases fl with
      | ret u => exact I1.after hq
      | _ => exact hq.elim
/-- a def's own frame: no cell of it is a frame -/
theorem cell_nofr {pins : List (Addr × Obj)} {σ : L2.St} {H : Hp} {s : Shared} (I : Inv X pins σ H s) (hfn : ∀ y, X.fn y = true) {y : Str} {c : Addr} (h : X.env.cells.lookup y = some c) : c ∉ frs X.stack := fun hm => by
  rcases List.mem_cons.mp (I.stkSub c hm) with z | z
  · exact I.cne y c h z
  · obtain ⟨_, o, ho, _⟩ := I.ok.funs.mem z
    have := I.ok.cab y c (hfn y) h
    exact absurd (Heap.lt_size ho) (Nat.not_lt.mpr this)
/-- the captured names stand in the slots js of a def's frame -/
theorem capR_def {σ : L2.St} {js : List Nat} (cp : X.Ok → Caps X L.cl fr js) (hfn : ∀ y, X.fn y = true) : CapR X σ L fr (js.map (slotAt σ)) := fun pins s H' I => ⟨cells_of I (cp I.ok), fun y c h => cell_nofr I hfn ((cp I.ok).sub y c h)⟩
theorem holds_js {σ : L2.St} {H : Hp} {js : List Nat} (S : Sit X.K X.mg M σ H e cs) : Holds X.K X.mg M H (js.map fun j => (e[j]?).getD none) (js.map (slotAt σ)) := ⟨by simp, fun i d q => by
  rw [List.getElem?_map] at q
  cases hj : js[i]? with
  | none => rw [hj] at q; cases q
  | some j =>
    rw [hj] at q
    have q' : (e[j]?).getD none = some d := Option.some.inj q
    have q2 : e[j]? = some (some d) := by
      cases h : e[j]? with
      | none => rw [h] at q'; cases q'
      | some o => rw [h] at q'; exact congrArg some q'
    obtain ⟨v, hv, r⟩ := S.env j d q2
    exact ⟨v, by rw [List.getElem?_map, hj]; exact congrArg some (slotAt_of hv), r⟩⟩
/-- _law_try(..) in the def that makes the lambda -/
theorem e_try {js : List Nat} (T : TryOk X.prog X.w X.K X.mg X.base kl k) (hr : Room k X.A) (ha : EE X M e cs a (.lam L) cs1) (hjs : js.map (fun j => (e[j]?).getD none) = el) (F : LamOk X.prog X.w X.K X.mg X.base kl L fr M el cs1 out cs2) (hdm : dom cs2 = dom cs1) (cp : X.Ok → Caps X L.cl fr js) (hct : Caught X.K X.mg out) (hd : tryD out = d) (hfn : ∀ y, X.fn y = true := by intro _; rfl) (hg : Gl X "_law_try" := by rfl)
    (he : starEach [a] X.env = (false, eval a X.env) :: starEach [] X.env := by rfl) : EE X M e cs (.Call (.Name "_law_try" p) [a] [] pos) d cs2 where
  dm := hdm.trans ha.dm
  k := fun σ H Q S k => by
    subst hd hjs
    exact try_raw T hr ha F hdm S (capR_def cp hfn) (holds_js S) hct hg he k
end
end Od

set_option Elab.async false
set_option linter.all false
set_option maxRecDepth 100000
set_option maxHeartbeats 4000000
/-! Ox6: defs with *v; static methods called by a keyword; lists of texts compared. -/
namespace Od
open PySem L2
section
variable {P : Program} {w : World} {K : PySem.W.Frag} {mg : Str → Option Value} {base : Heap} {args heads parts : List D} {cs cs' : Cs} {res : Out} {x qual n c m pv : Str} {st : Stmt} {f : Addr} {fd : FuncData} {N ps : List Str} {k : Nat}
/-- how a def with *v binds -/
def BindsS (x qual : Str) (st : Stmt) (ps : List Str) (pv : Str) : Prop := ∀ (kV doc pm : Value) (an : Option Addr) (cdv ct : Value) (us rest : List Value), us.length = ps.length → bindArgs (PySem.W.fnOf x qual (defArgs st) (defBody st) (defScope st) .none kV doc pm an cdv ct) ⟨us ++ rest, []⟩ = (newTuple rest >>= fun t => pure (ps.zip us ++ [(pv, t)]))
theorem fnrO_star (F : Fun K x qual st f fd) (S : FnScope N (ps ++ [pv]) (defScope st)) (hb : BindsS x qual st ps pv) (hl : heads.length = ps.length) (hz : parts.length ≤ 100000) (body : BodyO P w K mg base qual st f N k (heads ++ [.tup parts]) cs res cs') : FnR P w K mg base (L2.CX P w) (k + 1) f (outSp K mg (heads ++ parts) cs res cs') := by
  obtain ⟨oc, od, kV, doc, pm, an, cdv, ct, osl, rfl, lk, hcd⟩ := F.ex
  have h := StX.fn_star (P := P) (w := w) (mg := mg) (base := base) (k := k) (CX := (L2.CX P w)) (sp := outSp K mg (heads ++ [.tup parts]) cs res cs') lk hcd S StX.cxUp (hb kV doc pm an cdv ct) fun A outer s H vs Q E hr h => by
    obtain ⟨M, mt, r, hc, nd, kq⟩ := h
    refine ⟨_, pss_w, body cdv A outer s H E M Q hr (fun p hp => (hc p hp).1) kq _ _ (sit_start mt r hc nd) (fun q hq => ?_) fun q hq a ha => ?_⟩
    · rcases List.mem_singleton.mp hq with rfl
      exact Ext.refl _ _
    · rcases List.mem_singleton.mp hq with rfl
      exact .inl ha
  intro A outer s H us vs Q E hr e0 r hsp
  refine h A outer s H us vs Q E hr e0 r ?_
  obtain ⟨M, mt, rs, hc, nd, kq⟩ := hsp
  have r1 : Rs K mg M H (vs.take heads.length) heads := by simpa using rs.take heads.length
  have r2 : Rs K mg M H (vs.drop heads.length) parts := by simpa using rs.drop heads.length
  refine ⟨vs.take heads.length, vs.drop heads.length, by simp, by rw [r1.length, hl], by rw [r2.length]; exact Nat.le_trans hz (by decide), fun p hp0 => ?_⟩
  have kp : ∀ a o, H a = some o → upd H p (.tup (vs.drop heads.length)) a = some o := fun a o h => by rw [upd_ne (ne_of_none h hp0)]; exact h
  have xn : Ext [] H (upd H p (.tup (vs.drop heads.length))) := Ext.new hp0
  refine ⟨M, fun a m z => ?_, ?_, fun q hq => ⟨(hc q hq).1, (hc q hq).2.ext (fun a o _ h => kp a o h) (fun _ n _ => n) fun o h => kp _ o h⟩, nd, ?_⟩
  · cases q : H a with
    | none => exact mt a m q
    | some o => rw [kp a o q] at z; cases z
  · refine (Rs.ext (fun a o _ h => kp a o h) (fun _ n _ => n) _ r1).append (.cons ?_ .nil)
    unfold R
    exact ⟨p, _, rfl, .inl ⟨fun z => mt p z hp0, upd_same⟩, Rs.ext (fun a o _ h => kp a o h) (fun _ n _ => n) _ r2⟩
  · cases res with
    | ok d => exact fun v H' m2 xt => kq v H' m2 ((xn.mono (by simp)).trans xt)
    | err z => exact fun cls d H' m2 xt => kq cls d H' m2 ((xn.mono (by simp)).trans xt)
theorem fn_star' (F : Fun K x qual st f fd) (hm : mg n = some (.ref f)) (S : FnScope N (ps ++ [pv]) (defScope st)) (hb : BindsS x qual st ps pv) (body : BodyO P w K mg base qual st f N k (heads ++ [.tup parts]) cs res cs') (hz : parts.length ≤ 100000) (hl : heads.length = ps.length := by rfl) : Fn P w K mg base n (k + 1) (heads ++ parts) cs res cs' := ⟨f, hm, F.kp, fnrO_star F S hb hl hz body⟩
theorem sm_star (hC : ∃ C mc, mg c = some (.ref C) ∧ ClX.CRead K C mc ∧ CStm K C mc m f) (F : Fun K x qual st f fd) (S : FnScope N (ps ++ [pv]) (defScope st)) (hb : BindsS x qual st ps pv) (body : BodyO P w K mg base qual st f N k (heads ++ [.tup parts]) cs res cs') (hz : parts.length ≤ 100000) (hl : heads.length = ps.length := by rfl) : Sm P w K mg base c m (k + 1) (heads ++ parts) cs res cs' := by
  obtain ⟨C, mc, hm, h1, h2⟩ := hC
  exact ⟨C, mc, f, hm, h1, h2, F.kp, fnrO_star F S hb hl hz body⟩
theorem fnokO_of (F : Fun K x qual st f fd) (S : FnScope N ps (defScope st)) (hl : args.length = ps.length) (body : BodyO P w K mg base qual st f N k args cs res cs') : FnOk P w K mg base (L2.CX P w) (k + 1) f fd ps (outSp K mg args cs res cs') := F.okX S (fun vs H Q E h => by
    obtain ⟨M, _, r, _⟩ := h
    rw [r.length, hl]) fun cdv A outer s H vs Q E hr h => by
    obtain ⟨M, mt, r, hc, nd, kq⟩ := h
    refine ⟨_, pss_w, body cdv A outer s H E M Q hr (fun p hp => (hc p hp).1) kq _ _ (sit_start mt r hc nd) (fun q hq => ?_) fun q hq a ha => ?_⟩
    · rcases List.mem_singleton.mp hq with rfl
      exact Ext.refl _ _
    · rcases List.mem_singleton.mp hq with rfl
      exact .inl ha
end
/-- a static method, called by a keyword -/
structure StcK (P : Program) (w : World) (K : PySem.W.Frag) (mg : Str → Option Value) (base : Heap) (c m kw : Str) (k : Nat) (sp : Sp) : Prop where
  ex : ∃ C mc f fd ps, mg c = some (.ref C) ∧ ClX.CRead K C mc ∧ CStm K C mc m f ∧ PySem.W.keepIn K (.ref f) = true ∧ FnOk P w K mg base (L2.CX P w) k f fd ps sp ∧ KBinds K fd ps [kw] (fun us ws => us ++ ws) (fun vs zs => vs ++ zs)
section
variable {X : Cx} {M : Addr → Prop} {e : DE} {cs cs1 cs2 : Cs} {pos p apos : Pos} {a : Expr} {d x : D} {n m cn : Str} {k : Nat}
theorem e_smK {kw : String} {kp : Pos} {pl : Sem Bool} (F : StcK X.prog X.w X.K X.mg X.base cn m (Str.ofString kw) k (outSp X.K X.mg [x] [] (.ok d) [])) (hr : Room k X.A) (ha : EE X M e cs a x cs1) (hg : Gl X cn := by rfl) (hdb : (cn == ("__debug__" : Str)) = false := by decide)
    (hall : (backToKw pos (keywordEach [⟨some kw, a, kp⟩] X.env)).all (·.1.isSome) = true := by rfl) (hks : (backToKw pos (keywordEach [⟨some kw, a, kp⟩] X.env)).filterMap (·.1) = [Str.ofString kw] := by rfl)
    (hpl : ((backTo pos (starEach [] X.env)).any (·.1) || (backToKw pos (keywordEach [⟨some kw, a, kp⟩] X.env)).any (·.1.isNone)) = false := by rfl)
    (ht : eval (.Call (.Attribute (.Name cn p) m apos) [] [⟨some kw, a, kp⟩] pos) X.env = (do
      let ov ← eval (.Name cn p) X.env
      standAt apos.atName
      let (f, first) ← holding [ov] (getMethod ov m pl)
      callWith pos f first (backTo pos (starEach [] X.env)) (backToKw pos (keywordEach [⟨some kw, a, kp⟩] X.env))) := by rfl) : EE X M e cs (.Call (.Attribute (.Name cn p) m apos) [] [⟨some kw, a, kp⟩] pos) d cs1 where
  dm := ha.dm
  k := fun σ H Q S k => by
    obtain ⟨C, mc, g, fd, ps, hm, hrd, hv, hk, F, kb⟩ := F.ex
    have pe : PE X (.Call (.Attribute (.Name cn p) m apos) [] [⟨some kw, a, kp⟩] pos) (fun σ H Q => tCons (wE X a) tNil σ H fun zs H2 => outSp X.K X.mg [x] [] (.ok d) [] zs H2 Q E0) := by
      refine ⟨fun pins s σ H Q I h => PySem.W.methodCall_KW (pl := pl) (thn ((pe_glob (v := .ref C) hg hm rfl hdb).run pins s σ H (fun y H1 => y = .ref C ∧ H1 = H) I ⟨rfl, rfl⟩) fun u s1 ⟨y, H1, I1, rx, ex', eH⟩ => ?_) ht⟩
      subst ex' eH
      obtain rfl : u = Value.ref C := rx
      refine PySem.W.method_cls I1.kIn hrd.ga (getcst_ok I1 hrd hv fun s2 I2 => ?_)
      refine PySem.W.callWith_KW0 (first := []) (h₀ := X.base) I2.ok.mod.kin hk hall (thn ((pk_cons pe_w pk_nil).run pos pins s2 σ H1 _ I2 h) fun ws s3 ⟨zs, H2, I3, rz, q2⟩ => ⟨I3.kIn, ?_⟩) hpl
      rw [hks]
      exact run_fnk (us := []) (vs := []) F hr kb passL I3 .nil rz q2
    refine we_of pe (ha.k σ H _ S fun v H1 S1 x1 r1 => ?_)
    show outSp X.K X.mg [x] [] (.ok d) [] [v] H1 Q E0
    exact out_use S1 (.cons r1 .nil) sw0 fun v H' S2 x2 r2 => k v H' S2 (x1.trans (by rw [← ha.dm]; exact x2)) r2
theorem toPys_strs (l : List Str) : toPys (l.map D.str) = some (l.map PyData.str) := by
  induction l with
  | nil => simp [toPys]
  | cons s l ih => simp [toPys, toPy, ih]
theorem eqv_strs : ∀ l m : List Str, PyData.eqvAll (l.map PyData.str) (m.map PyData.str) = decide (l = m)
  | [], [] => by simp [PyData.eqvAll]
  | _ :: _, [] => by simp [PyData.eqvAll]
  | [], _ :: _ => by simp [PyData.eqvAll]
  | a :: l, b :: m => by
    simp only [List.map_cons, PyData.eqvAll, PyData.eqv, eqv_strs l m, List.cons.injEq, Bool.decide_and]
    congr 1
theorem cd_eqStrs {l m : List Str} (hu : X.A.units + 64 < cLine) (s1 : SeqAt.shaped (.list (l.map PyData.str)) = true) (s2 : SeqAt.shaped (.list (m.map PyData.str)) = true) : CmpD X .Eq (.lst (l.map D.str)) (.lst (m.map D.str)) (decide (l = m)) :=
  (cd_eqD hu (p := .list (l.map PyData.str)) (q := .list (m.map PyData.str)) (by simp [toPy, toPys_strs]) (by simp [toPy, toPys_strs]) s1 s2).eq (by simp only [PyData.eqv]; exact eqv_strs l m)
end
end Od

set_option Elab.async false
set_option linter.all false
set_option maxRecDepth 100000
set_option maxHeartbeats 4000000
/-! Ol5: _law_try(lambda: ..) in one step; a def whose code is known. -/
namespace Od
open PySem L2 LamX PyProof.Rows NdefX
def freeB (names outer : List (Str × NameKind)) : Bool := names.all fun y => !decide (y.2 = .free) || (decide (outer.lookup y.1 = some .cell) || decide (outer.lookup y.1 = some .free))
theorem freeB_of {names outer : List (Str × NameKind)} (h : freeB names outer = true) : ∀ y ∈ names, y.2 = .free → outer.lookup y.1 = some .cell ∨ outer.lookup y.1 = some .free := fun y hy e => by
  have := List.all_eq_true.mp h y hy
  simp only [e, decide_true, Bool.not_true, Bool.false_or, Bool.or_eq_true, decide_eq_true_eq] at this
  exact this
def frB (fr : List Str) (names : List (Str × NameKind)) : Bool := fr.all fun y => decide ((y, NameKind.free) ∈ names)
theorem frB_of {fr : List Str} {names : List (Str × NameKind)} (h : frB fr names = true) : ∀ y ∈ fr, (y, NameKind.free) ∈ names := fun y hy => of_decide_eq_true (List.all_eq_true.mp h y hy)
section
variable {X : Cx} {M : Addr → Prop} {e : DE} {cs cs2 : Cs} {pos p lpos : Pos} {body : Expr} {scope : Scope} {params : Arguments} {d dv : D} {k kl : Nat} {c P : Addr} {q : Str} {x : Xc}
/-- no parameters -/
structure NoPar (params : Arguments) : Prop where
  pos : params.posonlyargs = []
  args : params.args = []
  var : params.vararg = none
  kwo : params.kwonlyargs = []
  kwa : params.kwarg = none
theorem lamOk_of {L : LamF} {N fr : List Str} {el : DE} {out : Out} (hN : NoPar L.params) (hv : L.dvs = []) (hsc : nscB N [] fr L.scope = true) (hlen : el.length = fr.length)
    (F : ∀ (A : Around) (outer : List Env) (s : Shared) (H : Hp) (E : XK) (f c' : Addr), Room kl (A.deeper (envF (nfOf L c') f s.heap.objs.size)) → match out with
      | .ok d => EE (lcx X.prog X.w X.K X.mg X.base N L c' f A outer s H E) M (el ++ List.replicate (N.length - el.length) none) cs L.body d cs2
      | .err x => EX (lcx X.prog X.w X.K X.mg X.base N L c' f A outer s H E) M (el ++ List.replicate (N.length - el.length) none) cs L.body x cs2) : LamOk X.prog X.w X.K X.mg X.base kl L fr M el cs out cs2 :=
  ⟨N, [], nscope_by hsc, ⟨hN.pos, hN.var, hN.kwo, hN.kwa, .inl ⟨hN.args, hv, rfl⟩⟩, hlen, fun A outer s H E f c' hr => by
    have h := F A outer s H E f c' hr
    cases out with
    | ok d => simpa [hv] using h
    | err x => simpa [hv] using h⟩
/-- _law_try(lambda: ..), what is asked gives a value -/
theorem e_tryV (N fr : List Str) (js : List Nat) (el : DE) (T : TryOk X.prog X.w X.K X.mg X.base kl k) (hr : Room k X.A) (TL : LamAt X c P) (hin : (P, MC.tab q) ∈ cs)
    (F : ∀ (A : Around) (outer : List Env) (s : Shared) (H : Hp) (E : XK) (f c' : Addr), Room kl (A.deeper (envF (nfOf (lamOf X q params body scope []) c') f s.heap.objs.size)) → EE (lcx X.prog X.w X.K X.mg X.base N (lamOf X q params body scope []) c' f A outer s H E) M (el ++ List.replicate (N.length - el.length) none) cs body d cs2)
    (hdm : dom cs2 = dom cs) (hd : D.tup [.str "value", d] = dv := by rfl) (hjs : js.map (fun j => (e[j]?).getD none) = el := by rfl) (hq : q = X.env.qual ++ "<lambda>" := by rfl) (hN : NoPar params := by exact ⟨rfl, rfl, rfl, rfl, rfl⟩) (hsc : nscB N [] fr scope = true := by kernel_rfl) (hlen : el.length = fr.length := by rfl)
    (hfree : freeB scope.names X.env.scope.names = true := by kernel_rfl) (hfr : frB fr scope.names = true := by kernel_rfl) (hat : js.map (fun j => X.N[j]?) = fr.map some := by rfl) (hdef : defaultsOf params X.env = ([], []) := by rfl) (hfn : ∀ y, X.fn y = true := by intro _; rfl) (hg : Gl X "_law_try" := by rfl)
    (he : starEach [.Lambda params body scope lpos] X.env = (false, eval (.Lambda params body scope lpos) X.env) :: starEach [] X.env := by rfl) : EE X M e cs (.Call (.Name "_law_try" p) [.Lambda params body scope lpos] [] pos) dv cs2 :=
  e_try (out := .ok d) T hr (e_lam0 TL hin hq (freeB_of hfree) hdef) hjs (lamOk_of (out := .ok d) hN rfl hsc hlen F) hdm (fun ok => Caps.made ok (freeB_of hfree) (frB_of hfr) hat) trivial hd hfn hg he
/-- .. or raises -/
theorem e_tryX (N fr : List Str) (js : List Nat) (el : DE) (T : TryOk X.prog X.w X.K X.mg X.base kl k) (hr : Room k X.A) (TL : LamAt X c P) (hin : (P, MC.tab q) ∈ cs)
    (F : ∀ (A : Around) (outer : List Env) (s : Shared) (H : Hp) (E : XK) (f c' : Addr), Room kl (A.deeper (envF (nfOf (lamOf X q params body scope []) c') f s.heap.objs.size)) → EX (lcx X.prog X.w X.K X.mg X.base N (lamOf X q params body scope []) c' f A outer s H E) M (el ++ List.replicate (N.length - el.length) none) cs body x cs2)
    (hdm : dom cs2 = dom cs) (hct : Caught X.K X.mg (.err x)) (hd : tryD (.err x) = dv) (hjs : js.map (fun j => (e[j]?).getD none) = el := by rfl) (hq : q = X.env.qual ++ "<lambda>" := by rfl) (hN : NoPar params := by exact ⟨rfl, rfl, rfl, rfl, rfl⟩) (hsc : nscB N [] fr scope = true := by kernel_rfl) (hlen : el.length = fr.length := by rfl)
    (hfree : freeB scope.names X.env.scope.names = true := by kernel_rfl) (hfr : frB fr scope.names = true := by kernel_rfl) (hat : js.map (fun j => X.N[j]?) = fr.map some := by rfl) (hdef : defaultsOf params X.env = ([], []) := by rfl) (hfn : ∀ y, X.fn y = true := by intro _; rfl) (hg : Gl X "_law_try" := by rfl)
    (he : starEach [.Lambda params body scope lpos] X.env = (false, eval (.Lambda params body scope lpos) X.env) :: starEach [] X.env := by rfl) : EE X M e cs (.Call (.Name "_law_try" p) [.Lambda params body scope lpos] [] pos) dv cs2 :=
  e_try (out := .err x) T hr (e_lam0 TL hin hq (freeB_of hfree) hdef) hjs (lamOk_of (out := .err x) hN rfl hsc hlen F) hdm (fun ok => Caps.made ok (freeB_of hfree) (frB_of hfr) hat) hct hd hfn hg he
end
section
variable {P : Program} {w : World} {K : PySem.W.Frag} {mg : Str → Option Value} {base : Heap} {ι : Type} {pre : ι → Prop} {args : ι → List D} {cs cs' : ι → Cs} {res : ι → D} {x qual n : Str} {st : Stmt} {f : Addr} {N ps : List Str} {k : Nat} {oc kV doc pm cdv ct : Value} {od an : Option Addr} {osl : Array (Option Value)}
/-- a body, the code known -/
def BodyC (P : Program) (w : World) (K : PySem.W.Frag) (mg : Str → Option Value) (base : Heap) (qual : Str) (st : Stmt) (f : Addr) (cdv : Value) (N : List Str) (np : Nat) (k : Nat) {ι : Type} (pre : ι → Prop) (args : ι → List D) (cs : ι → Cs) (res : ι → D) (cs' : ι → Cs) : Prop :=
  ∀ (A : Around) (outer : List Env) (s : Shared) (H0 : Hp) (E : XK) (i : ι) (M : Addr → Prop) (Q : VK), pre i → Room k (A.deeper (PyProof.Rows.envOfC qual (defScope st) s.heap.objs.size f cdv)) → (∀ p ∈ cs i, M p.1) → 
    (∀ v H', (∀ a, M a → H' a ≠ none) → Ext (dom (cs i)) H0 H' → (∀ p ∈ cs' i, M p.1 ∧ Cell K mg M H' p.1 p.2) → R K mg M H' v (res i) → Q v H') →
    At (cxOf (L2.CX P w) P w K mg base N qual (defScope st) f cdv A outer s H0 E) M ((args i).map some ++ List.replicate (N.length - (args i).length) none) (cs i) [(dom (cs i), H0)]
      (wSs (cxOf (L2.CX P w) P w K mg base N qual (defScope st) f cdv A outer s H0 E) (defBody st) { nx := fun _ H' => Q .non H', rt := Q })
theorem fnokC_of (lk : K.lookup f = some ⟨oc, od, .func (PySem.W.fnOf x qual (defArgs st) (defBody st) (defScope st) .none kV doc pm an cdv ct), osl⟩) (hcd : PySem.W.codeIn K cdv qual = true) (S : FnScope N ps (defScope st)) (hl : ∀ i, (args i).length = ps.length)
    (body : BodyC P w K mg base qual st f cdv N ps.length k pre args cs res cs') : FnOk P w K mg base (L2.CX P w) (k + 1) f (PySem.W.fnOf x qual (defArgs st) (defBody st) (defScope st) .none kV doc pm an cdv ct) ps (fnSp K mg pre args cs res cs') :=
  L2.fn_of lk hcd S (fun vs H Q E h => by
    obtain ⟨M, i, _, _, r, _⟩ := h
    rw [r.length, hl]) fun A outer s H vs Q E hr h => by
    obtain ⟨M, i, hp, mt, r, hc, nd, kq⟩ := h
    refine ⟨_, pss_w, ?_⟩
    refine body A outer s H E i M Q hp hr (fun p hp => (hc p hp).1) kq _ _ (sit_start mt r hc nd) (fun q hq => ?_) fun q hq a ha => ?_
    · rcases List.mem_singleton.mp hq with rfl
      exact Ext.refl _ _
    · rcases List.mem_singleton.mp hq with rfl
      exact .inl ha
end
end Od

set_option Elab.async false
set_option linter.all false
set_option maxRecDepth 100000
set_option maxHeartbeats 4000000
/-! Ol6: comprehensions whose elements lean on the frame around the block. -/
namespace Od
open PySem L2 LamX PyProof.Rows NdefX
section
variable {X : Cx}
/-- as tLc, without tests; what an element does may lean on the state that the block began in -/
def tLw (X : Cx) (wi : TI) (g : TG) (te : Shared → Hp → List Addr → TE) (vs : List Nat) : TE := fun σ H Q => wi σ H fun J Ha => ∀ D, Ha D = none → ∃ W : Nat → Nat → Hp → Prop, (∃ m, W 0 m (upd Ha D (.lst []))) ∧
  ∀ (sb : Shared) (pb : List (Addr × Obj)) (fp : List Addr), Inv X pb σ (upd Ha D (.lst [])) sb → (∀ b ∈ fp, FpOk X pb (upd Ha D (.lst [])) b) → ∀ i m Hi, W i m Hi →
    (J.stop i Hi ∧ Q (.ref D) Hi) ∨ (J.go i Hi ∧ ∃ Nx : Hp → Prop, (∀ Hn, Nx Hn → ∃ m', m' < m ∧ W (i + 1) m' Hn) ∧ ∀ x Hy, J.yld i Hi x Hy → g x (wipe σ vs) Hy fun σt Ht => wipe σt vs = wipe σ vs ∧
      te sb (upd Ha D (.lst [])) fp σt Ht fun y He => ∃ acc, He D = some (.lst acc) ∧ acc.length < sizeLine ∧ Nx (upd He D (.lst (acc ++ [y]))))
theorem pe_lcw {elt tg iter : Expr} {scope : Scope} {own : List (Str × Nat)} {pos : Pos} {wi : TI} {g : TG} {te : Shared → Hp → List Addr → TE} (calm : X.calm = true) (nd : X.N.Nodup) (hw : PI X tg iter wi) (bo : BlkOk X.N X.env.scope scope own)
    (hg : ∀ (sb : Shared) (Hb : Hp) (C : Addr) (cl : List (Str × Addr)) (fp : List Addr), PG (blkOf X scope sb Hb C cl fp) tg g)
    (he : ∀ (sb : Shared) (Hb : Hp) (C : Addr) (cl : List (Str × Addr)) (fp : List Addr), PE (blkOf X scope sb Hb C cl fp) elt (te sb Hb fp)) (fold : ∀ x, foldedSetIterable iter X.env x = pure x) :
    PE X (.ListComp elt [⟨tg, iter, [], 0⟩] scope pos) (tLw X wi g te (own.map (·.2))) := by
  refine ⟨fun pins s σ H Q I want => ?_⟩
  rw [eval_ListComp]
  have clos : ∀ y ∈ scope.names, y.2 = .free → ∃ c, X.env.cells.lookup y.1 = some c := fun y hy e => (bo.free y hy e).elim (fun z => I.ok.has _ (.inl z)) fun z => I.ok.has _ (.inr z)
  refine wpAny_comprehension_free rfl fold (closure_ok clos) bo.kind (fun y hy e => by rw [bo.uniq y hy, e]) (thn (hw.run pins s σ H _ I want) fun xv sa hx => thn hx fun itv sc hc => ?_)
  obtain ⟨it, fp, tn, J, Ha, rfl, Ic, T, stc, fpc, q⟩ := hc
  refine wpAny_newObj_type (newEnv_comp ?_) (by show 0 ≤ sizeLine; decide)
  have free0 : Ha sc.heap.objs.size = none := Ic.hok.fresh (Nat.le_refl _)
  obtain ⟨W, ⟨m0, w0⟩, turns⟩ := q _ free0
  -- the list that is filled
  obtain ⟨sb, esb⟩ : ∃ sb : Shared, sb = { sc with heap := sc.heap.push { cls := .type "list", data := .seq ([] : List Value).toArray } } := ⟨_, rfl⟩
  have hsb : sb.heap = sc.heap.push { cls := .type "list", data := .seq ([] : List Value).toArray } := by rw [esb]
  obtain ⟨Hb, eHb⟩ : ∃ Hb : Hp, Hb = upd Ha sc.heap.objs.size (.lst []) := ⟨_, rfl⟩
  have Ib : Inv X pins σ Hb sb := by
    rw [esb, eHb]
    exact Ic.laid (t' := sc.toks) (fun b o e => Heap.get?_push_of_some _ e) (Nat.le_refl _) ⟨Nat.zero_le _, [], 0, .nil, Heap.get?_push_size _ rfl⟩
  have below : ∀ b ∈ fp, b < sc.heap.objs.size := fun b hb => by
    obtain ⟨o, e, _⟩ := T.obj _ _ stc b hb
    exact Heap.lt_size e
  have fpb : ∀ b ∈ fp, FpOk X pins Hb b ∧ b < sb.heap.objs.size := fun b hb => by
    refine ⟨⟨?_, (fpc b hb).2⟩, by rw [hsb, Heap.size_push]; exact Nat.lt_succ_of_lt (below b hb)⟩
    rw [eHb, upd_ne (Nat.ne_of_lt (below b hb))]
    exact (fpc b hb).1
  have none_b : ∀ b ∈ fp, Hb b = none := fun b hb => (fpb b hb).1.1
  have stb : tn 0 sb.heap := T.keep _ _ _ stc fun b _ o e => by rw [hsb]; exact Heap.get?_push_of_some _ e
  rw [← eHb] at w0 turns
  have turn := turns sb pins fp Ib fun b hb => (fpb b hb).1
  have D0 := block_start Ib bo nd fpb
  obtain ⟨ce, ece⟩ : ∃ ce : Env, ce = compEnvC scope (cellsFrom (sb.heap.objs.size + 1) scope.names (cloFrom X.env.cells scope.names [])) sb.heap.objs.size X.env := ⟨_, rfl⟩
  have pg : PG (X.blk sb Hb scope ce fp) tg g := by rw [ece]; exact hg sb Hb _ _ fp
  have pe : PE (X.blk sb Hb scope ce fp) elt (te sb Hb fp) := by rw [ece]; exact he sb Hb _ _ fp
  rw [← ece] at D0
  have locB : ce.locals = sb.heap.objs.size := by rw [ece]; rfl
  obtain ⟨s4, es4⟩ : ∃ s4 : Shared, s4 = { sb with heap := pushCells (sb.heap.push { cls := .type "dict", data := .dict #[] }) scope.names } := ⟨_, rfl⟩
  rw [← es4] at D0
  have st4 : tn 0 s4.heap := T.keep _ _ _ stb fun b _ o e => by rw [es4]; exact pushCells_keeps _ _ _ _ (Heap.get?_push_of_some _ e)
  have still : ∀ {σ' : L2.St} {H' : Hp} {s' : Shared}, Inv (X.blk sb Hb scope ce fp) [] σ' H' s' → (∀ b ∈ fp, H' b = none) → ∀ b ∈ fp, FpOk (X.blk sb Hb scope ce fp) [] H' b := fun {σ' H' s'} J hn b hb =>
    ⟨hn b hb, (J.ok.exf b hb).1, J.ok.exfs b hb, .inl hb, fun x c e => (J.ok.exf b hb).2 x c e, fun p hp => absurd (show p ∈ ([] : List (Addr × Obj)) ++ [] from hp) (by simp)⟩
  have loop : codeAny (model X.prog X.w) X.A (.compLoop (.ListComp elt [⟨tg, iter, [], 0⟩] scope pos) 0 (.ref it) (.ref sc.heap.objs.size) ce) (compPost (model X.prog X.w) X.A X.xe none (EP X pins σ Q) (.ref sc.heap.objs.size) sb.heap.objs.size) s4 := by
    refine compLoop_any (fun n s' => ∃ i Hi, Inv (X.blk sb Hb scope ce fp) [] (wipe σ (own.map (·.2))) Hi s' ∧ tn i s'.heap ∧ (∀ b ∈ fp, Hi b = none) ∧ W i n Hi) ?_ m0 ⟨0, Hb, D0, st4, none_b, w0⟩
    rintro n s5 ⟨i, H5, I5, st5, n5, w5⟩
    rcases turn i n H5 w5 with ⟨stop, fin⟩ | ⟨go, Nx, hNx, step⟩
    · refine thnF (T.done (X.blk sb Hb scope ce fp) rfl rfl rfl calm i [] s5 _ H5 (fun _ _ => False) I5 (still I5 n5) st5 stop) fun r s6 ⟨hr, I6⟩ => ?_
      subst hr
      have out : Inv X pins σ H5 s6 := Ib.call' (ch := fp) I6.os I6.base I6.hok I6.bare fun b hb => by
        obtain ⟨z0, z1, z2, z3, z4, z5⟩ := (fpb b hb).1
        exact ⟨z3, z1, z4, z5⟩
      have freeC : H5 sb.heap.objs.size = none := by
        have z : H5 ce.locals = none := I6.free
        rwa [locB] at z
      obtain ⟨m, hns, _⟩ := I6.loc
      have hns' : s6.heap.Ns ce.locals m := hns
      rw [locB] at hns'
      refine ⟨m, hns', fun h'' same => ?_⟩
      obtain ⟨f0, f1, f2, f3, f4, f5⟩ := Ib.fpOk (Nat.le_refl _) freeC
      exact ⟨.ref sc.heap.objs.size, H5, out.turned (t' := s6.toks) (fun b o hb e => (same.2 b hb).trans e) f0 f1 f3 f4 f5, rfl, fin⟩
    · refine thnF (T.item (X.blk sb Hb scope ce fp) rfl rfl rfl calm i [] s5 _ H5 (fun _ _ => False) I5 (still I5 n5) st5 go) fun r s6 ⟨u, hr, h6⟩ => ?_
      subst hr
      refine thnF h6 fun _ s7 ⟨x, H7, I7, r7, y7, st7, n7⟩ => ?_
      refine thnF (pg.run _ s7 _ H7 x u _ (I7.pinned (still I7 n7) (T.obj _ _ st7)) r7 (step x H7 y7)) fun _ s8 ⟨σ8, H8, I8, hw8, q8⟩ => ?_
      refine wpAny_tests_nil (show wpAny _ _ (eval elt ce) _ _ s8 from ?_)
      refine thnF (pe.run _ s8 σ8 H8 _ I8 q8) fun z s9 ⟨y, H9, I9, r9, acc, hD, hz, nx⟩ => ?_
      refine app_ok (X := X.blk sb Hb scope ce fp) I9 hD hz r9 fun s10 I10 => ?_
      obtain ⟨m', hm, w'⟩ := hNx _ nx
      have pinned : ∀ b ∈ fp, ∀ o, s7.heap.get? b = some o → s10.heap.get? b = some o ∧ _ := fun b hb o e =>
        let z := I10.pin (b, o) (List.mem_append_right _ (List.mem_append_right _ (mem_pinsAt hb e)))
        (⟨z.1, z.2.1⟩ : s10.heap.get? b = some o ∧ upd H9 sc.heap.objs.size (.lst (acc ++ [y])) b = none)
      refine ⟨m', hm, i + 1, _, (I10.unpinned (pins := [])).weak (by rw [← hw8, wipe_length]) (fun j v e => ?_), T.keep _ _ _ st7 fun b hb o e => (pinned b hb o e).1, fun b hb => ?_, w'⟩
      · rw [← hw8] at e
        exact (wipe_some e).1
      · obtain ⟨o, e, _⟩ := T.obj _ _ st7 b hb
        exact (pinned b hb o e).2
  have hst := codeAny_compStart_list loop (T.self X.A 0 _ _ _ st4 loop)
  subst ece es4 esb
  exact hst
end
section
variable {X : Cx} {M : Addr → Prop} {e : DE} {cs cs1 : Cs} {pos p : Pos} {tg : Expr} {α : Type}
/-- [elt for tg in iter] from a known state, the elements leaning on the frame around -/
theorem lcw_raw {scope : Scope} (own : List (Str × Nat)) {iter elt : Expr} {ef : D → DE} {P : D → Prop} (xs : List α) (g f : α → D) (hi : EI X M e cs tg iter (xs.map g) cs1) (ht : CTg X scope (own.map (·.2)) e tg ef P) (hP : ∀ x ∈ xs, P (g x)) (hn : xs.length ≤ 100000) {σ : L2.St} {H0 : Hp} {Q : VK} (St : Sit X.K X.mg M σ H0 e cs)
    (turn : ∀ x ∈ xs, ∀ (M' : Addr → Prop), (∀ a, M a → M' a) → (∀ a, M' a → M a ∨ H0 a = none) → ∀ (Hb : Hp) (sb : Shared) (pb : List (Addr × Obj)) (fp : List Addr), Inv X pb σ Hb sb → (∀ b ∈ fp, FpOk X pb Hb b) → ∀ (C : Addr) (cl : List (Str × Addr)) (σ' : L2.St) (H : Hp) (Q : VK), wipe σ' (own.map (·.2)) = wipe σ (own.map (·.2)) →
      Ext (dom cs) H0 H → Sit X.K X.mg M' σ' H (ef (g x)) cs1 → (∀ v H', Sit X.K X.mg M' σ' H' (ef (g x)) cs1 → Ext (dom cs1) H H' → R X.K X.mg M' H' v (f x) → Q v H') → wE (blkOf X scope sb Hb C cl fp) elt σ' H Q)
    (ok : BlkOk X.N X.env.scope scope own) (hN : X.N.Nodup) (k : ∀ v H', Sit X.K X.mg M σ H' e cs1 → Ext (dom cs) H0 H' → R X.K X.mg M H' v (.lst (xs.map f)) → Q v H') (hc : X.calm = true := by rfl) (hs : ∀ x, foldedSetIterable iter X.env x = pure x := by intro _; rfl) :
    wE X (.ListComp elt [⟨tg, iter, [], 0⟩] scope pos) σ H0 Q := by
  obtain ⟨dmI, wi, hpi, ki⟩ := hi
  obtain ⟨gg, hg, hgk⟩ := ht.k
  refine we_of (pe_lcw (own := own) (g := gg) (te := fun sb Hb fp σ H Q => ∀ (C : Addr) (cl : List (Str × Addr)), wE (blkOf X scope sb Hb C cl fp) elt σ H Q) hc hN hpi ok hg (fun sb Hb C cl fp => ⟨fun pins s1 σ H1 Q I h => h C cl pins s1 I⟩) hs) ?_
  refine ki σ H0 _ St fun J H1 S1 x1 wk Dl hD => ?_
  let M' : Addr → Prop := fun a => M a ∨ a = Dl
  have hM : ∀ a, M a → M' a := fun a h => .inl h
  have hM2 : ∀ a, M' a → M a ∨ H0 a = none := fun a h => h.imp id fun z => by
    subst z
    cases q : H0 a with
    | none => rfl
    | some o =>
      by_cases hd : a ∈ dom cs
      · rw [← dmI] at hd
        obtain ⟨p, hp, e⟩ := List.mem_map.mp hd
        exact absurd hD (by rw [← e]; exact (S1.cel p hp).2.ne)
      · rw [x1 a o q hd] at hD; cases hD
  have hDo : Dl ∉ dom cs1 := fun z => by
    obtain ⟨q, hq, rfl⟩ := List.mem_map.mp z
    exact (S1.cel q hq).2.ne hD
  let Pv : Nat → Hp → Prop := fun i H => ∃ acc, H Dl = some (.lst acc) ∧ Rs X.K X.mg M' H acc ((xs.take i).map f) ∧ Sit X.K X.mg M' (L2.wipe σ (own.map (·.2))) H (wipeD e (own.map (·.2))) cs1 ∧ Ext (dom cs1) H1 H
  have wk' : ∀ i H, Pv i H → (∀ (i : Nat) (d : D), (xs.map g)[i]? = some d → J.go i H ∧ ∀ x H3, J.yld i H x H3 → Ext [] H H3 ∧ R X.K X.mg M' H3 x d) ∧ J.stop (xs.map g).length H := fun i H p => by
    obtain ⟨acc, h1, h2, h3, h4⟩ := p
    refine wk M' H (fun a o nm h => ?_) h3.mt
    have hd : a ∉ dom cs1 := fun z => by
      obtain ⟨q, hq, rfl⟩ := List.mem_map.mp z
      exact nm (S1.cel q hq).1
    exact ⟨fun z => z.elim nm fun z => ne_of_none h hD z, h4 a o h hd⟩
  refine ⟨fun i m H => m = xs.length - i ∧ i ≤ xs.length ∧ Pv i H, ⟨xs.length, by simp, Nat.zero_le _, [], upd_same, by simpa using Rs.nil, (S1.mark hD).wipe _, Ext.new hD⟩, ?_⟩
  rintro sb pb fp Ib hfp i mm H ⟨rfl, hil, pv⟩
  obtain ⟨w1, w2⟩ := wk' i H pv
  obtain ⟨acc, h1, h2, h3, h4⟩ := pv
  by_cases hlt : i < xs.length
  · obtain ⟨y, hy⟩ : ∃ y, xs[i]? = some y := ⟨_, List.getElem?_eq_getElem hlt⟩
    have hd : (xs.map g)[i]? = some (g y) := by rw [List.getElem?_map, hy]; rfl
    have hmem : y ∈ xs := List.mem_of_getElem? hy
    obtain ⟨g1, g2⟩ := w1 i _ hd
    refine .inr ⟨g1, Pv (i + 1), fun H' p' => ⟨xs.length - (i + 1), by omega, rfl, hlt, p'⟩, fun x H3 yl => ?_⟩
    obtain ⟨x3, r3⟩ := g2 x H3 yl
    have S3 := h3.ex x3
    refine hgk M' cs1 σ H3 x (g y) _ (hP y hmem) S3 r3 fun σ' hσ S4 => ⟨hσ, fun C cl => ?_⟩
    have hacc3 : H3 Dl = some (.lst acc) := x3 Dl _ h1 (by simp)
    have h23 : Rs X.K X.mg M' H3 acc ((xs.take i).map f) := Rs.ext (M' := M') (fun a o _ h => x3 a o h (by simp)) (fun _ n _ => n) _ h2
    refine turn y hmem M' hM hM2 _ sb pb fp Ib hfp C cl σ' H3 _ hσ ((x1.trans (by rw [← dmI]; exact h4)).trans (x3.mono (by simp))) S4 fun v H5 S6 x6 r6 => ?_
    have hacc5 : H5 Dl = some (.lst acc) := x6 Dl _ hacc3 hDo
    have hl : acc.length ≤ i := by rw [h23.length]; simp; omega
    have h25 : Rs X.K X.mg M' H5 acc ((xs.take i).map f) := S4.rs x6 h23
    have Sw5 : Sit X.K X.mg M' (L2.wipe σ (own.map (·.2))) H5 (wipeD e (own.map (·.2))) cs1 := S3.step rfl x6 S6.mt S6.cel
    refine ⟨acc, hacc5, Nat.lt_of_le_of_lt hl (Nat.lt_of_lt_of_le hlt (Nat.le_trans hn (by decide))), acc ++ [v], upd_same, ?_, Sw5.upd (.inr rfl) hDo, fun a o h n => ?_⟩
    · have et : (xs.take (i + 1)).map f = (xs.take i).map f ++ [f y] := by rw [List.take_add_one, hy]; simp
      rw [et]
      exact Rs.ext (M' := M') (fun a o nm h => by rw [upd_ne (fun z => nm (.inr z))]; exact h) (fun _ n _ => n) _ (h25.append (.cons r6 .nil))
    · rw [upd_ne (ne_of_none h hD)]
      exact x6 a o (x3 a o (h4 a o h n) (by simp)) n
  · have e0 : i = xs.length := by omega
    subst e0
    refine .inl ⟨by simpa using w2, k _ H ?_ (x1.trans (by rw [← dmI]; exact h4)) ?_⟩
    · exact S1.step rfl h4 (fun a m => h3.mt a (.inl m)) fun q hq => ⟨(S1.cel q hq).1, (h3.cel q hq).2.ext (fun a o _ h => h) (fun a n _ z => n (.inl z)) fun o h => h⟩
    · rw [List.take_length] at h2
      unfold R
      exact ⟨Dl, acc, rfl, new_m S1.mt hD, h1, Rs.ext (fun a o _ h => h) (fun a n _ z => n (.inl z)) _ h2⟩
/-- [elt for tg in iter], the elements leaning on the frame around -/
theorem e_lcw {scope : Scope} (own : List (Str × Nat)) {iter elt : Expr} {ef : D → DE} {P : D → Prop} (xs : List α) (g f : α → D) (hi : EI X M e cs tg iter (xs.map g) cs1) (ht : CTg X scope (own.map (·.2)) e tg ef P) (hP : ∀ x ∈ xs, P (g x)) (hn : xs.length ≤ 100000)
    (turn : ∀ x ∈ xs, ∀ (M' : Addr → Prop), (∀ a, M a → M' a) → ∀ (σ0 : L2.St) (Hb : Hp) (sb : Shared) (pb : List (Addr × Obj)) (fp : List Addr), Inv X pb σ0 Hb sb → (∀ b ∈ fp, FpOk X pb Hb b) → ∀ (C : Addr) (cl : List (Str × Addr)) (σ' : L2.St) (H : Hp) (Q : VK), wipe σ' (own.map (·.2)) = wipe σ0 (own.map (·.2)) →
      Sit X.K X.mg M' σ' H (ef (g x)) cs1 → (∀ v H', Sit X.K X.mg M' σ' H' (ef (g x)) cs1 → Ext (dom cs1) H H' → R X.K X.mg M' H' v (f x) → Q v H') → wE (blkOf X scope sb Hb C cl fp) elt σ' H Q)
    (ok : BlkOk X.N X.env.scope scope own) (hN : X.N.Nodup) (hc : X.calm = true := by rfl) (hs : ∀ x, foldedSetIterable iter X.env x = pure x := by intro _; rfl) :
    EE X M e cs (.ListComp elt [⟨tg, iter, [], 0⟩] scope pos) (.lst (xs.map f)) cs1 where
  dm := hi.dm
  k := fun σ H0 Q St k => lcw_raw own xs g f hi ht hP hn St (fun x hx M' hM _ Hb sb pb fp Ib hfp C cl σ' H Q hw _ S kk => turn x hx M' hM σ Hb sb pb fp Ib hfp C cl σ' H Q hw S kk) ok hN k hc hs
/-- a lambda that was made in this frame, and what its call gives -/
structure Ask (X : Cx) (kl : Nat) (M : Addr → Prop) (e : DE) (vs : List Nat) (cs : Cs) (L : LamF) (out : Out) : Prop where
  ex : ∃ (fr : List Str) (js : List Nat) (el : DE), js.map (fun j => (e[j]?).getD none) = el ∧ (∀ j ∈ js, j ∉ vs) ∧ (X.Ok → Caps X L.cl fr js) ∧ (∀ M' : Addr → Prop, (∀ a, M a → M' a) → LamOk X.prog X.w X.K X.mg X.base kl L fr M' el cs out cs) ∧ Caught X.K X.mg out
theorem wipeD_get {e : DE} {i : Nat} : ∀ {vs : List Nat}, i ∉ vs → (wipeD e vs)[i]? = e[i]?
  | [], _ => rfl
  | v :: vs, h => by
    unfold wipeD
    rw [List.getElem?_set_ne (fun z => h (by rw [z]; exact List.mem_cons_self ..))]
    exact wipeD_get fun z => h (List.mem_cons_of_mem _ z)
/-- [_law_try(a) for a in asks] -/
theorem e_tryAll {kl k : Nat} {scope : Scope} {j : Nat} {y : Str} {iter : Expr} {p2 p3 pc : Pos} (asks : List (LamF × Out)) (T : TryOk X.prog X.w X.K X.mg X.base kl k) (hr : Room k X.A) (hi : EI X M e cs (.Name y p2) iter (asks.map fun x => .lam x.1) cs1) (ha : ∀ x ∈ asks, Ask X kl M e [j] cs1 x.1 x.2) (hj : X.N[j]? = some y) (hl : asks.length ≤ 100000)
    (ok : BlkOk X.N X.env.scope scope [(y, j)]) (hN : X.N.Nodup) (ht : CTg X scope [j] e (.Name y p2) (fun d => (wipeD e [j]).set j (some d)) (fun _ => True)) (hje : j < e.length)
    (hg : ∀ (sb : Shared) (Hb : Hp) (C : Addr) (cl : List (Str × Addr)) (fp : List Addr), Gl (blkOf X scope sb Hb C cl fp) "_law_try" := by intro _ _ _ _ _; rfl)
    (hv : ∀ (sb : Shared) (Hb : Hp) (C : Addr) (cl : List (Str × Addr)) (fp : List Addr), Vis (blkOf X scope sb Hb C cl fp).env.scope y := by intro _ _ _ _ _; first | exact Or.inl rfl | exact Or.inr (Or.inl rfl) | exact Or.inr (Or.inr rfl))
    (he : ∀ (sb : Shared) (Hb : Hp) (C : Addr) (cl : List (Str × Addr)) (fp : List Addr), starEach [.Name y p] (blkOf X scope sb Hb C cl fp).env = (false, eval (.Name y p) (blkOf X scope sb Hb C cl fp).env) :: starEach [] (blkOf X scope sb Hb C cl fp).env := by intro _ _ _ _ _; rfl)
    (hd1 : (y == ("__debug__" : Str)) = false := by decide) (hd2 : (y == ("__classdict__" : Str)) = false := by decide) (hfn : ∀ y, X.fn y = true := by intro _; rfl) (hc : X.calm = true := by rfl) (hs : ∀ x, foldedSetIterable iter X.env x = pure x := by intro _; rfl) :
    EE X M e cs (.ListComp (.Call (.Name "_law_try" p3) [.Name y p] [] pc) [⟨.Name y p2, iter, [], 0⟩] scope pos) (.lst (asks.map fun x => tryD x.2)) cs1 := by
  refine e_lcw (own := [(y, j)]) asks (fun x => .lam x.1) (fun x => tryD x.2) hi ht (fun _ _ => trivial) hl (fun x hx M' hM σ0 Hb sb pb fp Ib hfp C cl σ' H Q hw S k => ?_) ok hN hc hs
  obtain ⟨fr, js, el, hjs, hjv, cp, F, hct⟩ := (ha x hx).ex
  have cap := cp Ib.ok
  have inC : ∀ z c, x.1.cl.lookup z = some c → X.env.cells.lookup z = some c := fun z c h => cap.sub z c h
  have noF : ∀ z c, x.1.cl.lookup z = some c → c ∉ frs X.stack := fun z c h => cell_nofr Ib hfn (inC z c h)
  have same : js.map (slotAt σ') = js.map (slotAt σ0) := List.map_congr_left fun i hi => by
    have hn : i ∉ [j] := hjv i hi
    have e1 : (wipe σ' [j])[i]? = σ'[i]? := wipe_out hn
    have e2 : (wipe σ0 [j])[i]? = σ0[i]? := wipe_out hn
    have hw' : wipe σ' [j] = wipe σ0 [j] := hw
    unfold NdefX.slotAt
    rw [← e1, hw', e2]
  have C0 : CellsAt x.1.cl fr (js.map (slotAt σ')) sb.heap Hb := by rw [same]; exact cells_of Ib cap
  have cr : CapR (blkOf X scope sb Hb C cl fp) σ' x.1 fr (js.map (slotAt σ')) := fun pins s H' I => by
    refine ⟨CellsAt.later (X := blkOf X scope sb Hb C cl fp) C0 noF (fun z c h hm => ?_) I, fun z c h hm => ?_⟩
    · obtain ⟨_, _, _, _, f4, _⟩ := hfp c hm
      exact f4 z c (inC z c h) rfl
    · exact noF z c h hm
  have hse : ((wipeD e [j]).set j (some (.lam x.1)))[j]? = some (some (.lam x.1)) := List.getElem?_set_self (by simp [wipeD, hje])
  have en : EE (blkOf X scope sb Hb C cl fp) M' ((wipeD e [j]).set j (some (.lam x.1))) cs1 (.Name y p) (.lam x.1) cs1 := e_name (X := blkOf X scope sb Hb C cl fp) j hse hj (hv sb Hb C cl fp) hd1 hd2
  have hld : js.map (fun i => (((wipeD e [j]).set j (some (.lam x.1)))[i]?).getD none) = el := by
    rw [← hjs]
    refine List.map_congr_left fun i hi => ?_
    have hn : i ∉ [j] := hjv i hi
    rw [List.getElem?_set_ne (fun z => hn (by rw [z]; exact List.mem_cons_self ..)), wipeD_get hn]
  exact try_raw (X := blkOf X scope sb Hb C cl fp) T hr en (F M' hM) rfl S cr (by rw [← hld]; exact holds_js S) hct (hg sb Hb C cl fp) (he sb Hb C cl fp) k
end
end Od

set_option Elab.async false
set_option linter.all false
set_option maxRecDepth 100000
set_option maxHeartbeats 4000000
/-! Ol7: lambdas as asks: without parameters, with one; comprehensions whose elements change cells. -/
namespace Od
open PySem L2 LamX PyProof.Rows NdefX
section
variable {X : Cx} {M : Addr → Prop} {e : DE} {cs cs1 cs2 : Cs} {pos p lpos : Pos} {body : Expr} {scope : Scope} {params : Arguments} {k kl : Nat} {q : Str} {x : Xc} {tg : Expr} {α : Type}
/-- one parameter -/
structure OnePar (params : Arguments) (ar : Arg) : Prop where
  pos : params.posonlyargs = []
  args : params.args = [ar]
  var : params.vararg = none
  kwo : params.kwonlyargs = []
  kwa : params.kwarg = none
theorem lamOk_of1 {L : LamF} {N fr : List Str} {el : DE} {out : Out} {ar : Arg} {i : Int} (hN : OnePar L.params ar) (hv : L.dvs = [i]) (hsc : nscB N [ar.arg] fr L.scope = true) (hlen : el.length = fr.length)
    (F : ∀ (A : Around) (outer : List Env) (s : Shared) (H : Hp) (E : XK) (f c' : Addr), Room kl (A.deeper (envF (nfOf L c') f s.heap.objs.size)) → match out with
      | .ok d => EE (lcx X.prog X.w X.K X.mg X.base N L c' f A outer s H E) M (some (.int i) :: (el ++ List.replicate (N.length - 1 - el.length) none)) cs L.body d cs2
      | .err x => EX (lcx X.prog X.w X.K X.mg X.base N L c' f A outer s H E) M (some (.int i) :: (el ++ List.replicate (N.length - 1 - el.length) none)) cs L.body x cs2) : LamOk X.prog X.w X.K X.mg X.base kl L fr M el cs out cs2 :=
  ⟨N, [ar.arg], nscope_by hsc, ⟨hN.pos, hN.var, hN.kwo, hN.kwa, .inr ⟨ar, i, hN.args, hv, rfl⟩⟩, hlen, fun A outer s H E f c' hr => by
    have h := F A outer s H E f c' hr
    cases out with
    | ok d => simpa [hv] using h
    | err x => simpa [hv] using h⟩
/-- lambda: .. that raises -/
theorem ask0X (N fr : List Str) (js : List Nat) (el : DE) {vs : List Nat} (F : ∀ M' : Addr → Prop, (∀ a, M a → M' a) → ∀ (A : Around) (outer : List Env) (s : Shared) (H : Hp) (E : XK) (f c' : Addr), Room kl (A.deeper (envF (nfOf (lamOf X q params body scope []) c') f s.heap.objs.size)) → EX (lcx X.prog X.w X.K X.mg X.base N (lamOf X q params body scope []) c' f A outer s H E) M' (el ++ List.replicate (N.length - el.length) none) cs body x cs)
    (hct : Caught X.K X.mg (.err x)) (hjs : js.map (fun j => (e[j]?).getD none) = el := by rfl) (hjv : ∀ j ∈ js, j ∉ vs := by decide) (hN : NoPar params := by exact ⟨rfl, rfl, rfl, rfl, rfl⟩) (hsc : nscB N [] fr scope = true := by kernel_rfl) (hlen : el.length = fr.length := by rfl)
    (hfree : freeB scope.names X.env.scope.names = true := by kernel_rfl) (hfr : frB fr scope.names = true := by kernel_rfl) (hat : js.map (fun j => X.N[j]?) = fr.map some := by rfl) : Ask X kl M e vs cs (lamOf X q params body scope []) (.err x) :=
  ⟨fr, js, el, hjs, hjv, fun ok => Caps.made ok (freeB_of hfree) (frB_of hfr) hat, fun M' hM => lamOk_of (out := .err x) hN rfl hsc hlen (F M' hM), hct⟩
/-- lambda a=i: .. that raises -/
theorem ask1X (N fr : List Str) (js : List Nat) (el : DE) {vs : List Nat} {i : Int} {ar : Arg} (F : ∀ M' : Addr → Prop, (∀ a, M a → M' a) → ∀ (A : Around) (outer : List Env) (s : Shared) (H : Hp) (E : XK) (f c' : Addr), Room kl (A.deeper (envF (nfOf (lamOf X q params body scope [i]) c') f s.heap.objs.size)) → EX (lcx X.prog X.w X.K X.mg X.base N (lamOf X q params body scope [i]) c' f A outer s H E) M' (some (.int i) :: (el ++ List.replicate (N.length - 1 - el.length) none)) cs body x cs)
    (hct : Caught X.K X.mg (.err x)) (hjs : js.map (fun j => (e[j]?).getD none) = el := by rfl) (hjv : ∀ j ∈ js, j ∉ vs := by decide) (hN : OnePar params ar := by exact ⟨rfl, rfl, rfl, rfl, rfl⟩) (hsc : nscB N [ar.arg] fr scope = true := by kernel_rfl) (hlen : el.length = fr.length := by rfl)
    (hfree : freeB scope.names X.env.scope.names = true := by kernel_rfl) (hfr : frB fr scope.names = true := by kernel_rfl) (hat : js.map (fun j => X.N[j]?) = fr.map some := by rfl) : Ask X kl M e vs cs (lamOf X q params body scope [i]) (.err x) :=
  ⟨fr, js, el, hjs, hjv, fun ok => Caps.made ok (freeB_of hfree) (frB_of hfr) hat, fun M' hM => lamOk_of1 (out := .err x) hN rfl hsc hlen (F M' hM), hct⟩
/-- the lambdas themselves, with what they ask for found by evaluation -/
theorem e_lam0' {c P : Addr} (T : LamAt X c P) (hin : (P, MC.tab q) ∈ cs) (hq : q = X.env.qual ++ "<lambda>" := by rfl) (hfree : freeB scope.names X.env.scope.names = true := by kernel_rfl) (hdef : defaultsOf params X.env = ([], []) := by rfl) : EE X M e cs (.Lambda params body scope lpos) (.lam (lamOf X q params body scope [])) cs := e_lam0 T hin hq (freeB_of hfree) hdef
theorem e_lam1' {c P : Addr} {i : Int} {kk : Nat} {ip : Pos} (T : LamAt X c P) (hin : (P, MC.tab q) ∈ cs) (hq : q = X.env.qual ++ "<lambda>" := by rfl) (hfree : freeB scope.names X.env.scope.names = true := by kernel_rfl) (hdef : defaultsOf params X.env = ([eval (.Constant (.int i) kk ip) X.env], []) := by rfl) (hkw : params.kwonlyargs = [] := by rfl) : EE X M e cs (.Lambda params body scope lpos) (.lam (lamOf X q params body scope [i])) cs := e_lam1 T hin hq (freeB_of hfree) hdef hkw
/-- [elt for tg in iter], each element may change the cells -/
theorem e_lcS {scope : Scope} (own : List (Str × Nat)) {iter elt : Expr} {ef : D → DE} {P : D → Prop} (xs : List α) (g : α → D) (S : Nat → Cs) (out : Nat → D) (hi : EI X M e cs tg iter (xs.map g) cs1) (ht : CTg X scope (own.map (·.2)) e tg ef P) (hP : ∀ x ∈ xs, P (g x)) (hn : xs.length ≤ 100000) (hS0 : S 0 = cs1) (hSd : ∀ i, dom (S i) = dom cs1)
    (turn : ∀ (i : Nat) (x : α), xs[i]? = some x → ∀ (M' : Addr → Prop), (∀ a, M a → M' a) → ∀ (s : Shared) (H : Hp) (C : Addr) (cl : List (Str × Addr)) (fp : List Addr), EE (blkOf X scope s H C cl fp) M' (ef (g x)) (S i) elt (out i) (S (i + 1)))
    (ok : BlkOk X.N X.env.scope scope own) (hN : X.N.Nodup) (hc : X.calm = true := by rfl) (hs : ∀ x, foldedSetIterable iter X.env x = pure x := by intro _; rfl) :
    EE X M e cs (.ListComp elt [⟨tg, iter, [], 0⟩] scope pos) (.lst ((List.range xs.length).map out)) (S xs.length) where
  dm := (hSd _).trans hi.dm
  k := fun σ H Q St k => by
    have hmem : ∀ d ∈ xs.map g, P d := fun d hd => by
      obtain ⟨x, hx, rfl⟩ := List.mem_map.mp hd
      exact hP x hx
    have get : ∀ (i : Nat) (d : D), (xs.map g)[i]? = some d → ∃ x, xs[i]? = some x ∧ d = g x := fun i d hd => by
      rw [List.getElem?_map] at hd
      cases h : xs[i]? with
      | none => rw [h] at hd; cases hd
      | some x => rw [h] at hd; exact ⟨x, rfl, (Option.some.inj hd).symm⟩
    obtain ⟨t, h1, h2, _⟩ := lc_core' (pos := pos) (elt := elt) (ifs := []) hi ht hmem S S (fun _ => true) out hS0 hSd hSd (by simpa using hn) tYes (fun _ _ _ _ _ => pts_nil) (fun i d hd M' hM σ H Q S k => k H S (Ext.refl _ _))
      (fun i d hd _ M' hM s H C cl fp => by
        obtain ⟨x, hx, rfl⟩ := get i d hd
        exact turn i x hx M' hM s H C cl fp) (fun i d hd h => by cases h) hc hN ok hs
    refine we_of h1 (h2 σ H Q St fun v H' S' x' r' => ?_)
    rw [List.length_map] at S' r'
    have eo : outs (fun _ => true) out xs.length = (List.range xs.length).map out := by
      unfold outs
      rw [List.filter_eq_self.mpr fun _ _ => rfl]
    rw [eo] at r'
    exact k v H' S' x' r'
/-- name = [elt for tg in iter] on one line, the name a local; each element may change the cells -/
theorem at_lcS {scope : Scope} {fr : Frs} {rest : List Stmt} {D0 : Ends} {y : Str} {py spos : Pos} (j : Nat) (own : List (Str × Nat)) {iter elt : Expr} {ef : D → DE} {P : D → Prop} (xs : List α) (g : α → D) (S : Nat → Cs) (out : Nat → D) (hi : EI X M e cs tg iter (xs.map g) cs1) (ht : CTg X scope (own.map (·.2)) e tg ef P) (hP : ∀ x ∈ xs, P (g x)) (hn : xs.length ≤ 100000) (hS0 : S 0 = cs1) (hSd : ∀ i, dom (S i) = dom cs1)
    (turn : ∀ (i : Nat) (x : α), xs[i]? = some x → ∀ (M' : Addr → Prop), (∀ a, M a → M' a) → ∀ (s : Shared) (H : Hp) (C : Addr) (cl : List (Str × Addr)) (fp : List Addr), EE (blkOf X scope s H C cl fp) M' (ef (g x)) (S i) elt (out i) (S (i + 1)))
    (ok : BlkOk X.N X.env.scope scope own) (hN : X.N.Nodup) (k : At X M (e.set j (some (.lst ((List.range xs.length).map out)))) (S xs.length) fr (wSs X rest D0)) (hj : X.N[j]? = some y := by rfl) (hl : X.env.scope.names.lookup y = some .local := by rfl) (hk : X.env.scope.kind = .function := by rfl) (hln : (py.line == pos.line) = true := by rfl) (hno : (scope.names.any fun (n, k) => n == y && (k == .local || k == .cell)) = false := by rfl) (hc : X.calm = true := by rfl) (hs : ∀ x, foldedSetIterable iter X.env x = pure x := by intro _; rfl) :
    At X M e cs fr (wSs X (.Assign [.Name y py] (.ListComp elt [⟨tg, iter, [], 0⟩] scope pos) spos :: rest) D0) := fun σ H St x l => by
  have hmem : ∀ d ∈ xs.map g, P d := fun d hd => by
    obtain ⟨x, hx, rfl⟩ := List.mem_map.mp hd
    exact hP x hx
  have get : ∀ (i : Nat) (d : D), (xs.map g)[i]? = some d → ∃ x, xs[i]? = some x ∧ d = g x := fun i d hd => by
    rw [List.getElem?_map] at hd
    cases h : xs[i]? with
    | none => rw [h] at hd; cases hd
    | some x => rw [h] at hd; exact ⟨x, rfl, (Option.some.inj hd).symm⟩
  have hdm := hi.dm
  obtain ⟨t, h1, h2, h3⟩ := lc_core' (pos := pos) (elt := elt) (ifs := []) hi ht hmem S S (fun _ => true) out hS0 hSd hSd (by simpa using hn) tYes (fun _ _ _ _ _ => pts_nil) (fun i d hd M' hM σ H Q S k => k H S (Ext.refl _ _))
    (fun i d hd _ M' hM s H C cl fp => by
      obtain ⟨x, hx, rfl⟩ := get i d hd
      exact turn i x hx M' hM s H C cl fp) (fun i d hd h => by cases h) hc hN ok hs
  refine wss_of (pss_cons (h3 y py spos j hj hl (sw_true hk hl hln hno)) pss_w) (h2 σ H _ St fun v H' S' x' r' => ?_)
  rw [List.length_map] at S' r'
  have eo : outs (fun _ => true) out xs.length = (List.range xs.length).map out := by
    unfold outs
    rw [List.filter_eq_self.mpr fun _ _ => rfl]
  rw [eo] at r'
  exact k _ H' (S'.set j r') (ext_on x l x') (lo_of l ((hSd _).trans hdm))
/-- .. the elements leave the cells as they are -/
theorem at_lcM {scope : Scope} {fr : Frs} {rest : List Stmt} {D0 : Ends} {y : Str} {py spos : Pos} (j : Nat) (own : List (Str × Nat)) {iter elt : Expr} {ef : D → DE} {P : D → Prop} (xs : List α) (g f : α → D) (hi : EI X M e cs tg iter (xs.map g) cs1) (ht : CTg X scope (own.map (·.2)) e tg ef P) (hP : ∀ x ∈ xs, P (g x)) (hn : xs.length ≤ 100000)
    (turn : ∀ x ∈ xs, ∀ (M' : Addr → Prop), (∀ a, M a → M' a) → ∀ (s : Shared) (H : Hp) (C : Addr) (cl : List (Str × Addr)) (fp : List Addr), EE (blkOf X scope s H C cl fp) M' (ef (g x)) cs1 elt (f x) cs1)
    (ok : BlkOk X.N X.env.scope scope own) (hN : X.N.Nodup) (k : At X M (e.set j (some (.lst (xs.map f)))) cs1 fr (wSs X rest D0)) (hj : X.N[j]? = some y := by rfl) (hl : X.env.scope.names.lookup y = some .local := by rfl) (hk : X.env.scope.kind = .function := by rfl) (hln : (py.line == pos.line) = true := by rfl) (hno : (scope.names.any fun (n, k) => n == y && (k == .local || k == .cell)) = false := by rfl) (hc : X.calm = true := by rfl) (hs : ∀ x, foldedSetIterable iter X.env x = pure x := by intro _; rfl) :
    At X M e cs fr (wSs X (.Assign [.Name y py] (.ListComp elt [⟨tg, iter, [], 0⟩] scope pos) spos :: rest) D0) := by
  have eo : (List.range xs.length).map (fun i => ((xs[i]?).map f).getD .non) = xs.map f := by
    have := outs_mapM xs f
    unfold outs at this
    rw [List.filter_eq_self.mpr fun _ _ => rfl] at this
    exact this
  refine at_lcS j own xs g (fun _ => cs1) (fun i => ((xs[i]?).map f).getD .non) hi ht hP hn rfl (fun _ => rfl) (fun i x hx M' hM s H C cl fp => ?_) ok hN (by rw [eo]; exact k) hj hl hk hln hno hc hs
  show EE _ _ _ _ _ (((xs[i]?).map f).getD .non) _
  rw [hx]
  exact turn x (List.mem_of_getElem? hx) M' hM s H C cl fp
end
end Od

set_option Elab.async false
set_option linter.all false
set_option maxRecDepth 100000
set_option maxHeartbeats 4000000
/-! Ol8: expressions that give a new list; defs and methods that return one. -/
namespace Od
open PySem L2
section
variable {X : Cx} {M : Addr → Prop} {e : DE} {cs : Cs} {pos p apos : Pos} {a b c ex o : Expr} {es : List Expr} {ds : List D}
/-- ex gives a new list of ds -/
structure EN (X : Cx) (M : Addr → Prop) (e : DE) (cs : Cs) (ex : Expr) (ds : List D) : Prop where
  k : ∀ (σ : L2.St) (H : Hp) (Q : VK), Sit X.K X.mg M σ H e cs → (∀ p H' xs, H p = none → Ext [] H H' → (∀ a, M a → H' a ≠ none) → H' p = some (.lst xs) → Rs X.K X.mg (fun a => M a ∨ a = p) H' xs ds → Q (.ref p) H') → wE X ex σ H Q
theorem en_fin {H H1 : Hp} {p : Addr} {xs : List V} {Q : VK} (mt : ∀ a, M a → H1 a ≠ none) (x1 : Ext [] H H1) (hp : H1 p = none) (r : Rs X.K X.mg M H1 xs ds) (k : ∀ p H' xs, H p = none → Ext [] H H' → (∀ a, M a → H' a ≠ none) → H' p = some (.lst xs) → Rs X.K X.mg (fun a => M a ∨ a = p) H' xs ds → Q (.ref p) H') : Q (.ref p) (upd H1 p (.lst xs)) := by
  have hn : H p = none := by
    cases z : H p with
    | none => rfl
    | some o => rw [x1 p o z (by simp)] at hp; cases hp
  refine k p _ xs hn (x1.trans (Ext.new hp)) (fun b mb => ?_) upd_same ?_
  · by_cases h : b = p
    · subst h; rw [upd_same]; simp
    · rw [upd_ne h]; exact mt b mb
  · exact Rs.ext (fun b o _ h => by rw [upd_ne (ne_of_none h hp)]; exact h) (fun b n h z => z.elim n fun z => h (z ▸ hp)) _ r
/-- [] -/
theorem en_nil : EN X M e cs (.List [] pos) [] := ⟨fun σ H Q S k => we_of (pe_lst pa_nil) ⟨by simp, fun q hq => en_fin S.mt (Ext.refl _ _) hq .nil k⟩⟩
theorem EN.eq {ds' : List D} (h : EN X M e cs ex ds) (q : ds = ds') : EN X M e cs ex ds' := q ▸ h
/-- a if c else b -/
theorem en_if {p0 : Bool} (hc : ET X M e [] c p0 []) (ha : p0 = true → EN X M e [] a ds) (hb : p0 = false → EN X M e [] b ds) : EN X M e [] (.IfExp c a b pos) ds := ⟨fun σ H Q S k => we_of (pe_ifExp pt_w pe_w pe_w) (hc.k σ H _ S fun H1 S1 x1 => by
  have x1' : Ext [] H H1 := x1
  have k' : ∀ p H' xs, H1 p = none → Ext [] H1 H' → (∀ a, M a → H' a ≠ none) → H' p = some (.lst xs) → Rs X.K X.mg (fun a => M a ∨ a = p) H' xs ds → Q (.ref p) H' := fun p H' xs hp x2 mt hh r => k p H' xs (by
    cases z : H p with
    | none => rfl
    | some o => rw [x1' p o z (by simp)] at hp; cases hp) (x1'.trans x2) mt hh r
  cases p0 with
  | true => rw [if_pos rfl]; exact (ha rfl).k σ H1 Q S1 k'
  | false => rw [if_neg (by simp)]; exact (hb rfl).k σ H1 Q S1 k')⟩
/-- list(x), x a list -/
theorem en_list (ha : EE X M e [] a (.lst ds) []) (hm : X.mg "list" = none) (hg : Gl X "list" := by rfl) (he : starEach [a] X.env = (false, eval a X.env) :: starEach [] X.env := by rfl) : EN X M e [] (.Call (.Name "list" p) [a] [] pos) ds := ⟨fun σ H Q S k => by
  refine we_of (pe_callTy call_list_of hg hm (by decide +kernel) (pa_cons pe_w pa_nil he) (by decide) (by decide) he rfl) (ha.k σ H _ S fun v H1 S1 x1 r1 => ?_)
  obtain ⟨ad, xs, rfl, _, h1, ra⟩ := r_lst r1
  exact ⟨ad, xs, rfl, .inl (.of h1), fun q hq => en_fin S1.mt x1 hq ra k⟩⟩
end
section
variable {P : Program} {w : World} {K : PySem.W.Frag} {mg : Str → Option Value} {base : Heap} {ι : Type} {pre : ι → Prop} {args ds : ι → List D} {x qual c m : Str} {st : Stmt} {f : Addr} {fd : FuncData} {N ps : List Str} {k : Nat}
/-- a method that returns a new list -/
theorem mthN_of (hC : ∃ C, mg c = some (.ref C) ∧ Cls K C ∧ Meth K C m f) (F : Fun K x qual st f fd) (S : FnScope N ps (defScope st)) (hb : Binds K fd ps []) (hl : ∀ i, (args i).length = ps.length)
    (body : ∀ (cdv : Value) (A : Around) (outer : List Env) (s : Shared) (H0 : Hp) (E : XK) (i : ι) (M : Addr → Prop) (Q : VK), pre i → Room k (A.deeper (PyProof.Rows.envOfC qual (defScope st) s.heap.objs.size f cdv)) →
      (∀ p H', H0 p = none → (∀ a, M a → H' a ≠ none) → Ext [] H0 H' → (∃ xs, H' p = some (.lst xs) ∧ Rs K mg (fun a => M a ∨ a = p) H' xs (ds i)) → Q (.ref p) H') →
      At (cxOf (L2.CX P w) P w K mg base N qual (defScope st) f cdv A outer s H0 E) M ((args i).map some ++ List.replicate (N.length - (args i).length) none) [] [([], H0)]
        (wSs (cxOf (L2.CX P w) P w K mg base N qual (defScope st) f cdv A outer s H0 E) (defBody st) { nx := fun _ H' => Q .non H', rt := Q })) : Mth P w K mg base c m (k + 1) (fnSpN K mg pre args ds) := by
  have h : FnOk P w K mg base (L2.CX P w) (k + 1) f fd ps (fnSpN K mg pre args ds) := F.okX S (fun vs H Q E h => by
    obtain ⟨M, i, _, _, r, _⟩ := h
    rw [r.length, hl]) fun cdv A outer s H vs Q E hr h => by
    obtain ⟨M, i, hp, mt, r, kq⟩ := h
    refine ⟨_, pss_w, ?_⟩
    refine body cdv A outer s H E i M Q hp hr kq _ _ (sit_start mt r (by simp) (by simp)) (fun q hq => ?_) fun q hq a ha => by simp at ha
    rcases List.mem_singleton.mp hq with rfl
    exact Ext.refl _ _
  have h2 := h.raw (ds := []) (dvs := []) hb .nil
  obtain ⟨C, h1, h3, h4⟩ := hC
  exact ⟨C, f, h1, h3, h4, by simpa using h2⟩
end
section
variable {X : Cx} {M : Addr → Prop} {e : DE} {fr : Frs} {D0 : Ends} {pos : Pos} {ex : Expr} {rest : List Stmt} {ds ds' : List D}
/-- return ex, a new list -/
theorem at_endE {H0 : Hp} (ha : EN X M e [] ex ds) (hd : ds = ds') (hfr : ([], H0) ∈ fr)
    (kq : ∀ p H', H0 p = none → (∀ a, M a → H' a ≠ none) → Ext [] H0 H' → (∃ xs, H' p = some (.lst xs) ∧ Rs X.K X.mg (fun a => M a ∨ a = p) H' xs ds') → D0.rt (.ref p) H') : At X M e [] fr (wSs X (.Return (some ex) pos :: rest) D0) := fun σ H S x l =>
  wss_of (pss_cons (ps_ret pe_w) pss_w) (ha.k σ H _ S fun p H' xs hp x1 mt hh r => kq p H' (by
    cases z : H0 p with
    | none => rfl
    | some o => rw [(x _ hfr) p o z (by simp)] at hp; cases hp) mt ((x _ hfr).trans x1) ⟨xs, hh, hd ▸ r⟩)
end
end Od

set_option Elab.async false
set_option linter.all false
set_option maxRecDepth 100000
set_option maxHeartbeats 4000000
/-! Ol9: a new list that a method hands out, changed at once and dropped. -/
namespace Od
open PySem L2
section
variable {X : Cx} {M : Addr → Prop} {e : DE} {cs : Cs} {pos p apos pc : Pos} {o : Expr} {ds : List D} {n m cn : Str} {ns : List Str} {gs : List D} {k : Nat} {ι : Type} {pre : ι → Prop} {args dz : ι → List D}
/-- x.m(), x a name of this frame, m hands out a new list -/
theorem en_me0 {pl : Sem Bool} (F : Mth X.prog X.w X.K X.mg X.base cn m k (fnSpN X.K X.mg pre args dz)) (hr : Room k X.A) (j : Nat) (hj : e[j]? = some (some (.obj cn ns gs))) (i : ι) (hp : pre i) (hds : [.obj cn ns gs] = args i) (hN : X.N[j]? = some n := by rfl) (hv : Vis X.env.scope n := by first | exact Or.inl rfl | exact Or.inr (Or.inl rfl) | exact Or.inr (Or.inr rfl)) (hnm : m ∉ ns := by decide +kernel)
    (h1 : (n == ("__debug__" : Str)) = false := by decide) (h2 : (n == ("__classdict__" : Str)) = false := by decide)
    (ht : eval (.Call (.Attribute (.Name n p) m apos) [] [] pos) X.env = (do
      let ov ← eval (.Name n p) X.env
      standAt apos.atName
      let (f, first) ← holding [ov] (getMethod ov m pl)
      callWith pos f first (backTo pos (starEach [] X.env)) (backToKw pos (keywordEach [] X.env))) := by rfl) : EN X M e cs (.Call (.Attribute (.Name n p) m apos) [] [] pos) (dz i) := ⟨fun σ H Q S k => by
    obtain ⟨C, f, hm, hc, hmt, F⟩ := F.ex
    obtain ⟨v, hs, r⟩ := S.env j _ hj
    have r' := r
    obtain ⟨ad, C', dx, xs, rfl, _, hm', hob, hl, rs⟩ := r_obj r
    rw [hm] at hm'; cases hm'
    refine we_of (pe_methR0 (E := E0) (pe_var hN hv h1 h2) hc hmt F hr passL ht) ⟨.ref ad, hs, ad, dx, _, rfl, hob, zip_lookup_none hnm, M, i, hp, S.mt, by rw [← hds]; exact .cons r' .nil, fun q H' hq mt xt ⟨ys, hh, rr⟩ => k q H' ys hq xt mt hh rr⟩⟩
/-- o.append(None), o a new list -/
theorem e_tmpApp {jc : Nat} (ho : EN X M e cs o ds) (hl : ds.length < 100000)
    (hpe : ∀ ta, PA X [.Constant .none jc pc] ta → PE X (.Call (.Attribute o "append" apos) [.Constant .none jc pc] [] pos) (tBM X.K "list" rAppend (wE X o) ta) := by intro ta h; exact pe_bm PySem.F.plainAttrs_list PySem.F.slot_list_append PySem.F.type_list_append mt_append pe_w h)
    (hs : starEach [.Constant .none jc pc] X.env = (false, eval (.Constant .none jc pc) X.env) :: starEach [] X.env := by rfl) : EE X M e cs (.Call (.Attribute o "append" apos) [.Constant .none jc pc] [] pos) .non cs where
  dm := rfl
  k := fun σ H Q S k => we_of (hpe _ (pa_cons pe_non pa_nil hs)) (ho.k σ H _ S fun q H' xs hq xt mt hh rr => by
    refine ⟨.inl ⟨rfl, xs, .of hh⟩, q, xs, .non, rfl, rfl, hh, by rw [rr.length]; exact Nat.lt_of_lt_of_le hl (by decide), ?_⟩
    have x2 : Ext [] H (upd H' q (.lst (xs ++ [V.non]))) := fun a o h hn => by
      rw [upd_ne (ne_of_none h hq)]; exact xt a o h hn
    exact k _ _ (S.ex x2) (x2.mono (by simp)) (by simp [R]))
/-- o.clear(), o a new list -/
theorem e_tmpClr (ho : EN X M e cs o ds) (hpe : PE X (.Call (.Attribute o "clear" apos) [] [] pos) (tBM0 X.K "list" rClear (wE X o)) := by exact pe_bm0 PySem.F.plainAttrs_list PySem.F.slot_list_clear PySem.F.type_list_clear mt_clear pe_w) : EE X M e cs (.Call (.Attribute o "clear" apos) [] [] pos) .non cs where
  dm := rfl
  k := fun σ H Q S k => we_of hpe (ho.k σ H _ S fun q H' xs hq xt mt hh rr => by
    refine ⟨.inl ⟨rfl, xs, .of hh⟩, q, xs, rfl, rfl, hh, ?_⟩
    have x2 : Ext [] H (upd H' q (.lst [])) := fun a o h hn => by
      rw [upd_ne (ne_of_none h hq)]; exact xt a o h hn
    exact k _ _ (S.ex x2) (x2.mono (by simp)) (by simp [R]))
end
end Od

set_option Elab.async false
set_option linter.all false
set_option maxRecDepth 100000
set_option maxHeartbeats 4000000
/-! Od25: dicts that are walked (locked the while). -/
namespace Od
open PySem L2
def keyD : Key → D
  | .inl i => .int i
  | .inr s => .str s
theorem r_key {K : PySem.W.Frag} {mg : Str → Option Value} {M : Addr → Prop} {H : Hp} (k : Key) : R K mg M H (kV k) (keyD k) := by
  cases k <;> simp [keyD, kV, R]
/-! ### another state of a dict that holds the same -/
/-- H' is H but for how the dict at d stands there -/
structure Swp (H H' : Hp) (d : Addr) (kvs : List (Key × V)) : Prop where
  ne : ∀ b, b ≠ d → H' b = H b
  a : Rd H d (.dK kvs)
  b : Rd H' d (.dK kvs)
theorem Rd.inj {H : Hp} {d : Addr} {kvs kvs' : List (Key × V)} (a : Rd H d (.dK kvs)) (b : Rd H d (.dK kvs')) : kvs = kvs' := by
  rcases a with a | ⟨o, a⟩ <;> rcases b with b | ⟨o', b⟩ <;> rw [a] at b
  · cases b; rfl
  · cases b
  · cases b
  · cases b; rfl
section
variable {K : PySem.W.Frag} {mg : Str → Option Value} {M : Addr → Prop} {H H' : Hp} {d : Addr} {kvs : List (Key × V)}
theorem Swp.sym (w : Swp H H' d kvs) : Swp H' H d kvs := ⟨fun b h => (w.ne b h).symm, w.b, w.a⟩
theorem Swp.nd (w : Swp H H' d kvs) {a : Addr} {o : HO} (h : H a = some o) (h1 : ∀ k, o ≠ .dK k) (h2 : ∀ ob u, o ≠ .frz ob u) : H' a = some o := by
  have : a ≠ d := fun z => by
    subst z
    rcases w.a with q | ⟨ob, q⟩ <;> rw [q] at h <;> cases h
    · exact h1 _ rfl
    · exact h2 _ _ rfl
  rw [w.ne a this]; exact h
theorem Swp.dk (w : Swp H H' d kvs) {a : Addr} {k : List (Key × V)} (h : Rd H a (.dK k)) : Rd H' a (.dK k) := by
  by_cases z : a = d
  · subst z
    rw [Rd.inj h w.a]; exact w.b
  · rcases h with h | ⟨o, h⟩
    · exact .inl (by rw [w.ne a z]; exact h)
    · exact .inr ⟨o, by rw [w.ne a z]; exact h⟩
theorem Swp.ls (w : Swp H H' d kvs) {a : Addr} {k : List V} (h : Rd H a (.lst k)) : Rd H' a (.lst k) := by
  have z : a ≠ d := fun z => by
    subst z
    rcases w.a with q | ⟨ob, q⟩ <;> rcases h with h | ⟨o, h⟩ <;> rw [q] at h <;> cases h
  rcases h with h | ⟨o, h⟩
  · exact .inl (by rw [w.ne a z]; exact h)
  · exact .inr ⟨o, by rw [w.ne a z]; exact h⟩
mutual
theorem R.swp (w : Swp H H' d kvs) : ∀ (x : D) {v : V}, R K mg M H v x → R K mg M H' v x
  | .lam _, _, h => by
    unfold R at h ⊢
    obtain ⟨f, c', dV, e, n1, h1, n2, h2, h3⟩ := h
    exact ⟨f, c', dV, e, n1, w.nd h1 (fun _ z => by cases z) (fun _ _ z => by cases z), n2, w.nd h2 (fun _ z => by cases z) (fun _ _ z => by cases z), h3.imp_right fun ⟨t, e1, n3, q⟩ => ⟨t, e1, n3, w.nd q (fun _ z => by cases z) (fun _ _ z => by cases z)⟩⟩
  | .non, _, h => h
  | .bl _, _, h => h
  | .int _, _, h => h
  | .str _, _, h => h
  | .ref _, _, h => h
  | .ty _, _, h => h
  | .lst ds, v, h => by
    unfold R at h ⊢
    obtain ⟨a, xs, e, n, q, r⟩ := h
    exact ⟨a, xs, e, n, w.nd q (fun _ z => by cases z) (fun _ _ z => by cases z), Rs.swp w ds r⟩
  | .tup ds, v, h => by
    unfold R at h ⊢
    obtain ⟨a, xs, e, q, r⟩ := h
    refine ⟨a, xs, e, ?_, Rs.swp w ds r⟩
    rcases q with ⟨n, q⟩ | q
    · exact .inl ⟨n, w.nd q (fun _ z => by cases z) (fun _ _ z => by cases z)⟩
    · exact .inr q
  | .obj c ns ds, v, h => by
    unfold R at h ⊢
    obtain ⟨a, C, dx, xs, e, n, g, q, l, r⟩ := h
    exact ⟨a, C, dx, xs, e, n, g, w.nd q (fun _ z => by cases z) (fun _ _ z => by cases z), l, Rs.swp w ds r⟩
  | .dic ks ds, v, h => by
    unfold R at h ⊢
    obtain ⟨a, xs, e, n, q, l, r⟩ := h
    exact ⟨a, xs, e, n, w.dk q, l, Rs.swp w ds r⟩
  | .exc a dd ns ds, v, h => by
    unfold R at h ⊢
    obtain ⟨xs, e, n, q, l, r⟩ := h
    exact ⟨xs, e, n, w.nd q (fun _ z => by cases z) (fun _ _ z => by cases z), l, Rs.swp w ds r⟩
  | .scr ns, v, h => by
    unfold R at h ⊢
    obtain ⟨a, e, q⟩ := h
    refine ⟨a, e, ?_⟩
    rcases q with ⟨n, q⟩ | q
    · exact .inl ⟨n, w.ls q⟩
    · exact .inr q
theorem Rs.swp (w : Swp H H' d kvs) : ∀ (ds : List D) {xs : List V}, Rs K mg M H xs ds → Rs K mg M H' xs ds
  | [], [], _ => by unfold Rs; trivial
  | [], _ :: _, h => by unfold Rs at h; exact h.elim
  | _ :: _, [], h => by unfold Rs at h; exact h.elim
  | x :: ds, v :: xs, h => by
    unfold Rs at h ⊢
    exact ⟨R.swp w x h.1, Rs.swp w ds h.2⟩
end
theorem Cell.swp (w : Swp H H' d kvs) {a : Addr} (na : a ≠ d) : ∀ {c : MC}, Cell K mg M H a c → Cell K mg M H' a c
  | .tab _, ⟨ps, q, t, r⟩ => ⟨ps, by rw [w.ne a na]; exact q, t, fun pos cv hc => by
      obtain ⟨c, e1, n, h1⟩ := r pos cv hc
      exact ⟨c, e1, n, w.nd h1 (fun _ z => by cases z) (fun _ _ z => by cases z)⟩⟩
  | .lst _, ⟨xs, q, r⟩ => ⟨xs, by rw [w.ne a na]; exact q, Rs.swp w _ r⟩
  | .obj _ _ _, ⟨C, dx, xs, g, q, l, r⟩ => ⟨C, dx, xs, g, by rw [w.ne a na]; exact q, l, Rs.swp w _ r⟩
  | .dic _ _, ⟨xs, q, l, r⟩ => ⟨xs, by rw [w.ne a na]; exact q, l, Rs.swp w _ r⟩
theorem Sit.swp {σ : L2.St} {e : DE} {cs : Cs} (w : Swp H H' d kvs) (nm : ¬ M d) (S : Sit K mg M σ H e cs) : Sit K mg M σ H' e cs where
  mt := fun a m => by
    have : a ≠ d := fun z => nm (z ▸ m)
    rw [w.ne a this]; exact S.mt a m
  len := S.len
  env := fun i x q => by
    obtain ⟨v, e1, r⟩ := S.env i x q
    exact ⟨v, e1, R.swp w x r⟩
  cel := fun p hp => ⟨(S.cel p hp).1, (S.cel p hp).2.swp w fun z => nm (z ▸ (S.cel p hp).1)⟩
  nd := S.nd
theorem lock_swp {od : Obj} (h : H d = some (.dK kvs)) : Swp H (upd H d (.frz od (.dK kvs))) d kvs := ⟨fun b n => upd_ne n, .inl h, .inr ⟨od, upd_same⟩⟩
theorem unlock_swp {od : Obj} (h : H d = some (.frz od (.dK kvs))) : Swp H (upd H d (.dK kvs)) d kvs := ⟨fun b n => upd_ne n, .inr ⟨od, h⟩, .inl upd_same⟩
/-- locked, then anything, then unlocked: as if never locked -/
theorem ext_lock {od : Obj} {A : List Addr} {H2 : Hp} (h : H d = some (.dK kvs)) (nd : d ∉ A) (x : Ext A (upd H d (.frz od (.dK kvs))) H2) : Ext A H (upd H2 d (.dK kvs)) := fun a o q n => by
  by_cases z : a = d
  · subst z
    rw [upd_same, ← q, h]
  · rw [upd_ne z]
    exact x a o (by rw [upd_ne z]; exact q) n
end
/-! ### what is walked, in states of a kind -/
structure EIF (F : L2.St → Hp → Prop) (X : Cx) (M : Addr → Prop) (e : DE) (cs : Cs) (tg iter : Expr) (ds : List D) (cs' : Cs) : Prop where
  dm : dom cs' = dom cs
  k : ∃ wi, PI X tg iter wi ∧ ∀ (σ : L2.St) (H : Hp) (Q : It → Hp → Prop), F σ H → Sit X.K X.mg M σ H e cs → (∀ J H', Sit X.K X.mg M σ H' e cs' → Ext (dom cs) H H' → Walks X M J ds H' → Q J H') → wi σ H Q
section
variable {X : Cx} {M M' : Addr → Prop} {e : DE} {cs cs1 cs2 cs3 : Cs} {pos p pos' apos : Pos} {tg a b c ex o : Expr} {es : List Expr} {d x y z : D} {ds : List D} {n m : Str} {k j : Nat}
theorem lc_coreF {scope : Scope} {own : List (Str × Nat)} {iter elt : Expr} {ifs : List Expr} {ef : D → DE} {P : D → Prop} {F : L2.St → Hp → Prop} (hi : EIF F X M e cs tg iter ds cs1) (ht : CTg X scope (own.map (·.2)) e tg ef P) (hP : ∀ d ∈ ds, P d) (S mid : Nat → Cs) (keep : Nat → Bool) (out : Nat → D) (hS0 : S 0 = cs1) (hSd : ∀ i, dom (S i) = dom cs1) (hmd : ∀ i, dom (mid i) = dom cs1) (hn : ds.length ≤ 100000)
    (tt : TT) (htt : ∀ (s : Shared) (H : Hp) (C : Addr) (cl : List (Str × Addr)) (fp : List Addr), PTs (blkOf X scope s H C cl fp) ifs tt)
    (turnT : ∀ (i : Nat) (d : D), ds[i]? = some d → ∀ (M' : Addr → Prop), (∀ a, M a → M' a) → ∀ (σ : L2.St) (H : Hp) (Q : Bool → Hp → Prop), Sit X.K X.mg M' σ H (ef d) (S i) → (∀ H', Sit X.K X.mg M' σ H' (ef d) (mid i) → Ext (dom cs1) H H' → Q (keep i) H') → tt σ H Q)
    (turnE : ∀ (i : Nat) (d : D), ds[i]? = some d → keep i = true → ∀ (M' : Addr → Prop), (∀ a, M a → M' a) → ∀ (s : Shared) (H : Hp) (C : Addr) (cl : List (Str × Addr)) (fp : List Addr), EE (blkOf X scope s H C cl fp) M' (ef d) (mid i) elt (out i) (S (i + 1)))
    (turnN : ∀ (i : Nat) (d : D), ds[i]? = some d → keep i = false → S (i + 1) = mid i)
    (hc : X.calm = true) (hN : X.N.Nodup) (ok : BlkOk X.N X.env.scope scope own) (hs : ∀ x, foldedSetIterable iter X.env x = pure x) :
    ∃ t, PE X (.ListComp elt [⟨tg, iter, ifs, 0⟩] scope pos) t ∧ (∀ (σ : L2.St) (H : Hp) (Q : VK), F σ H → Sit X.K X.mg M σ H e cs → (∀ v H', Sit X.K X.mg M σ H' e (S ds.length) → Ext (dom cs) H H' → R X.K X.mg M H' v (.lst (outs keep out ds.length)) → Q v H') → t σ H Q) ∧
      ∀ (y : Str) (py spos : Pos) (i : Nat) , X.N[i]? = some y → X.env.scope.names.lookup y = some .local → swapsWith (.ListComp elt [⟨tg, iter, ifs, 0⟩] scope pos) (some (.Name y py)) spos.line X.env = pure true →
        PS X (.Assign [.Name y py] (.ListComp elt [⟨tg, iter, ifs, 0⟩] scope pos) spos) (tAsg t (gName i)) := by
  obtain ⟨dmI, wi, hpi, ki⟩ := hi
  obtain ⟨g, hg, hgk⟩ := ht.k
  let teB : TE := fun σ H Q => ∀ (s : Shared) (H0 : Hp) (C : Addr) (cl : List (Str × Addr)) (fp : List Addr), wE (blkOf X scope s H0 C cl fp) elt σ H Q
  have heB : ∀ (s : Shared) (H : Hp) (C : Addr) (cl : List (Str × Addr)) (fp : List Addr), PE (X.blk s H scope (compEnvC scope cl C X.env) fp) elt teB := fun s H C cl fp => ⟨fun pins s1 σ H1 Q I h => h s H C cl fp pins s1 I⟩
  refine ⟨_, pe_lc (own := own) (g := g) (tt := tt) (te := teB) hc hN hpi ok hg htt heB hs, fun σ H0 Q hF St k => ?_, fun y py spos i h1 h2 h3 => ps_setLc hc hN h1 h2 h3 hpi ok hg htt heB hs⟩
  refine ki σ H0 _ hF St fun J H1 S1 x1 wk Dl hD => ?_
  let M' : Addr → Prop := fun a => M a ∨ a = Dl
  have hM : ∀ a, M a → M' a := fun a h => .inl h
  have hDo : Dl ∉ dom cs1 := fun z => by
    obtain ⟨q, hq, rfl⟩ := List.mem_map.mp z
    exact (S1.cel q hq).2.ne hD
  let Pv : Nat → Hp → Prop := fun i H => ∃ acc, H Dl = some (.lst acc) ∧ Rs X.K X.mg M' H acc (outs keep out i) ∧ Sit X.K X.mg M' (L2.wipe σ (own.map (·.2))) H (wipeD e (own.map (·.2))) (S i) ∧ Ext (dom cs1) H1 H
  have wk' : ∀ i H, Pv i H → (∀ (i : Nat) (d : D), ds[i]? = some d → J.go i H ∧ ∀ x H3, J.yld i H x H3 → Ext [] H H3 ∧ R X.K X.mg M' H3 x d) ∧ J.stop ds.length H := fun i H p => by
    obtain ⟨acc, h1, h2, h3, h4⟩ := p
    refine wk M' H (fun a o nm h => ?_) h3.mt
    have hd : a ∉ dom cs1 := fun z => by
      obtain ⟨q, hq, rfl⟩ := List.mem_map.mp z
      exact nm (S1.cel q hq).1
    exact ⟨fun z => z.elim nm fun z => ne_of_none h hD z, h4 a o h hd⟩
  refine ⟨fun i m H => m = ds.length - i ∧ i ≤ ds.length ∧ Pv i H, ⟨ds.length, by simp, Nat.zero_le _, [], upd_same, Rs.nil, ?_, Ext.new hD⟩, ?_⟩
  · rw [hS0]; exact (S1.mark hD).wipe _
  rintro i mm H ⟨rfl, hil, pv⟩
  obtain ⟨w1, w2⟩ := wk' i H pv
  obtain ⟨acc, h1, h2, h3, h4⟩ := pv
  by_cases hlt : i < ds.length
  · obtain ⟨d, hd⟩ : ∃ d, ds[i]? = some d := ⟨_, List.getElem?_eq_getElem hlt⟩
    obtain ⟨g1, g2⟩ := w1 i d hd
    refine .inr ⟨g1, Pv (i + 1), fun H' p' => ⟨ds.length - (i + 1), by omega, rfl, hlt, p'⟩, fun x H3 y => ?_⟩
    obtain ⟨x3, r3⟩ := g2 x H3 y
    have S3 := h3.ex x3
    refine hgk M' (S i) σ H3 x d _ (hP d (List.mem_of_getElem? hd)) S3 r3 fun σ' hσ S4 => ⟨hσ, turnT i d hd M' hM σ' H3 _ S4 fun H4 S5 x5 => ?_⟩
    have hacc3 : H3 Dl = some (.lst acc) := x3 Dl _ h1 (by simp)
    have hacc4 : H4 Dl = some (.lst acc) := x5 Dl _ hacc3 hDo
    have h24 : Rs X.K X.mg M' H4 acc (outs keep out i) := by
      have q := Rs.ext (M' := M') (fun a o _ h => x3 a o h (by simp)) (fun _ n _ => n) _ h2
      exact S4.rs (by rw [hSd i]; exact x5) q
    have x4 : Ext (dom cs1) H1 H4 := (h4.trans (x3.mono (by simp))).trans x5
    have Sw : Sit X.K X.mg M' (L2.wipe σ (own.map (·.2))) H4 (wipeD e (own.map (·.2))) (mid i) := by
      exact S3.step (by rw [hmd i, hSd i]) (by rw [hSd i]; exact x5) S5.mt S5.cel
    cases hk : keep i with
    | true =>
      rw [if_pos rfl]
      intro s0 H0' C cl fp
      refine (turnE i d hd hk M' hM s0 H0' C cl fp).k σ' H4 _ S5 fun v H5 S6 x6 r6 => ?_
      rw [hmd i] at x6
      have hacc5 : H5 Dl = some (.lst acc) := x6 Dl _ hacc4 hDo
      have hl : acc.length ≤ i := by rw [h24.length]; exact outs_len
      have h25 : Rs X.K X.mg M' H5 acc (outs keep out i) := S5.rs (by rw [hmd i]; exact x6) h24
      have Sw5 : Sit X.K X.mg M' (L2.wipe σ (own.map (·.2))) H5 (wipeD e (own.map (·.2))) (S (i + 1)) := Sw.step (by rw [hmd i, hSd (i + 1)]) (by rw [hmd i]; exact x6) S6.mt S6.cel
      refine ⟨acc, hacc5, Nat.lt_of_le_of_lt hl (Nat.lt_of_lt_of_le hlt (Nat.le_trans hn (by decide))), acc ++ [v], upd_same, ?_, Sw5.upd (.inr rfl) (by rw [hSd]; exact hDo), fun a o h n => ?_⟩
      · rw [outs_yes hk]
        exact Rs.ext (M' := M') (fun a o nm h => by rw [upd_ne (fun z => nm (.inr z))]; exact h) (fun _ n _ => n) _ (h25.append (.cons r6 .nil))
      · rw [upd_ne (ne_of_none h hD)]
        exact x6 a o (x4 a o h n) n
    | false =>
      rw [if_neg (by simp)]
      refine ⟨acc, hacc4, by rw [outs_no hk]; exact h24, ?_, x4⟩
      rw [turnN i d hd hk]; exact Sw
  · have e0 : i = ds.length := by omega
    subst e0
    refine .inl ⟨w2, k _ H ?_ (x1.trans (by rw [← dmI]; exact h4)) ?_⟩
    · exact S1.step (hSd _) h4 (fun a m => h3.mt a (.inl m)) fun q hq => ⟨(by
        have hq' : q.1 ∈ dom cs1 := by rw [← hSd ds.length]; exact List.mem_map_of_mem (f := (·.1)) hq
        obtain ⟨q0, h0, e0⟩ := List.mem_map.mp hq'
        have := (S1.cel q0 h0).1
        rwa [e0] at this), (h3.cel q hq).2.ext (fun a o _ h => h) (fun a n _ z => n (.inl z)) fun o h => h⟩
    · unfold R
      exact ⟨Dl, acc, rfl, new_m S1.mt hD, h1, Rs.ext (fun a o _ h => h) (fun a n _ z => n (.inl z)) _ h2⟩

/-- the slot j holds the locked dict a -/
def FrzAt (j : Nat) (ad : Addr) (kvs : List (Key × V)) : L2.St → Hp → Prop := fun σ H => σ[j]? = some (some (.ref ad)) ∧ ∃ ob, H ad = some (.frz ob (.dK kvs))
theorem ei_keys {ad : Addr} {kvs : List (Key × V)} (j : Nat) (nm : ¬ M ad) (hN : X.N[j]? = some n) (hv : Vis X.env.scope n) (h1 : (n == ("__debug__" : Str)) = false) (h2 : (n == ("__classdict__" : Str)) = false) : EIF (FrzAt j ad kvs) X M e cs tg (.Name n p) ((kvs.map (·.1)).map keyD) cs where
  dm := rfl
  k := ⟨_, pi_keys (pe_var hN hv h1 h2), fun σ H Q hF S k => by
    obtain ⟨hs, ob, hfz⟩ := hF
    refine ⟨.ref ad, hs, ad, ob, rfl, .inl ⟨kvs, hfz, k _ H S (Ext.refl _ _) fun M2 H2 kp mt => ?_⟩⟩
    have h2 := (kp ad _ nm hfz).2
    refine ⟨fun i d hd => ?_, h2, by simp⟩
    simp only [List.map_map] at hd
    rw [List.getElem?_map] at hd
    cases hk : kvs[i]? with
    | none => rw [hk] at hd; cases hd
    | some kv =>
      rw [hk] at hd
      have hd' : keyD kv.1 = d := Option.some.inj hd
      have hlt : i < kvs.length := by
        cases Nat.lt_or_ge i kvs.length with
        | inl z => exact z
        | inr z => rw [List.getElem?_eq_none z] at hk; cases hk
      refine ⟨⟨h2, hlt⟩, fun x H3 y => ?_⟩
      obtain ⟨rfl, k', v', hk', rfl⟩ := y
      rw [hk] at hk'
      cases hk'
      exact ⟨Ext.refl _ _, hd' ▸ r_key _⟩⟩
/-- [elt for k in d] -/
theorem e_lcD {α : Type} {ks : List Key} {scope : Scope} (own : List (Str × Nat)) {elt : Expr} {ef : D → DE} {P : D → Prop} (j : Nat) (hj : e[j]? = some (some (.dic ks ds))) (xs : List α) (g : α → Key) (f : α → D) (hks : ks = xs.map g) (ht : CTg X scope (own.map (·.2)) e tg ef P) (hP : ∀ x ∈ xs, P (keyD (g x))) (hn : xs.length ≤ 100000)
    (turn : ∀ x ∈ xs, ∀ (M' : Addr → Prop), (∀ a, M a → M' a) → ∀ (s : Shared) (H : Hp) (C : Addr) (cl : List (Str × Addr)) (fp : List Addr), EE (blkOf X scope s H C cl fp) M' (ef (keyD (g x))) cs elt (f x) cs)
    (ok : BlkOk X.N X.env.scope scope own) (hN : X.N.Nodup) (hjN : X.N[j]? = some n := by rfl) (hv : Vis X.env.scope n := by first | exact Or.inl rfl | exact Or.inr (Or.inl rfl) | exact Or.inr (Or.inr rfl)) (h1 : (n == ("__debug__" : Str)) = false := by decide) (h2 : (n == ("__classdict__" : Str)) = false := by decide)
    (hc : X.calm = true := by rfl) (hs : ∀ x, foldedSetIterable (.Name n p) X.env x = pure x := by intro _; rfl) :
    EE X M e cs (.ListComp elt [⟨tg, .Name n p, [], 0⟩] scope pos) (.lst (xs.map f)) cs where
  dm := rfl
  k := fun σ H Q S k => by
    obtain ⟨v, hsv, r⟩ := S.env j _ hj
    unfold R at r
    obtain ⟨ad, vs, rfl, nm, hrd, hlen, rs⟩ := r
    have nd : ad ∉ dom cs := fun z => by
      obtain ⟨q, hq, rfl⟩ := List.mem_map.mp z
      exact nm (S.cel q hq).1
    have hmap : ((ks.zip vs).map (·.1)).map keyD = xs.map fun x => keyD (g x) := by
      rw [List.map_fst_zip (by omega), hks, List.map_map]; rfl
    have at_ : ∀ (i : Nat) (d : D), (xs.map fun x => keyD (g x))[i]? = some d → ∃ x, xs[i]? = some x ∧ x ∈ xs ∧ d = keyD (g x) := fun i d h => by
      rw [List.getElem?_map] at h
      cases q : xs[i]? with
      | none => rw [q] at h; cases h
      | some x => rw [q] at h; exact ⟨x, rfl, List.mem_of_getElem? q, (Option.some.inj h).symm⟩
    have hi : EIF (FrzAt j ad (ks.zip vs)) X M e cs tg (.Name n p) (xs.map fun x => keyD (g x)) cs := hmap ▸ ei_keys j nm hjN hv h1 h2
    obtain ⟨t, t1, t2, _⟩ := lc_coreF (pos := pos) (elt := elt) (ifs := []) hi ht (fun d hd => by
      obtain ⟨x, hx, rfl⟩ := List.mem_map.mp hd
      exact hP x hx) (fun _ => cs) (fun _ => cs) (fun _ => true) (fun i => ((xs[i]?).map f).getD .non) rfl (fun _ => rfl) (fun _ => rfl) (by rw [List.length_map]; exact hn) tYes (fun _ _ _ _ _ => pts_nil) (fun i d hd M' hM σ H Q S k => k H S (Ext.refl _ _))
      (fun i d hd _ M' hM s H C cl fp => by
        obtain ⟨x, hx1, hx2, rfl⟩ := at_ i d hd
        rw [hx1]
        exact turn x hx2 M' hM s H C cl fp) (fun i d hd h => by cases h) hc hN ok hs
    have ho : outs (fun _ => true) (fun i => ((xs[i]?).map f).getD .non) (xs.map fun x => keyD (g x)).length = xs.map f := by
      rw [List.length_map]; exact outs_mapM xs f
    rcases hrd with hrd | ⟨ob, hrd⟩
    · refine we_of (pe_lock t1) ⟨ad, _, hrd, trivial, fun od => ?_⟩
      refine t2 σ _ _ ⟨hsv, od, upd_same⟩ (S.swp (lock_swp hrd) nm) fun v H' S' x' r' => ?_
      have hfz : H' ad = some (.frz od (.dK (ks.zip vs))) := x' ad _ upd_same nd
      refine ⟨hfz, k v _ (S'.swp (unlock_swp hfz) nm) (ext_lock hrd nd x') ?_⟩
      rw [ho] at r'
      exact R.swp (unlock_swp hfz) _ r'
    · refine we_of t1 (t2 σ H _ ⟨hsv, ob, hrd⟩ S fun v H' S' x' r' => k v H' S' x' ?_)
      rw [ho] at r'
      exact r'
end
end Od

set_option Elab.async false
set_option linter.all false
set_option maxRecDepth 100000
set_option maxHeartbeats 4000000
/-! Od26: for over a dict; dicts that grow; dict(pairs); sorted(dict). -/
namespace Od
open PySem L2
/-- d[k] = x, in terms of data -/
def putD : List Key → List D → Key → D → List Key × List D
  | k :: ks, d :: ds, x, y => if k = x then (k :: ks, y :: ds) else (k :: (putD ks ds x y).1, d :: (putD ks ds x y).2)
  | ks, ds, x, y => (ks ++ [x], ds ++ [y])
section
variable {X : Cx} {M : Addr → Prop} {e : DE} {cs cs1 cs2 cs3 : Cs} {fr : Frs} {D0 : Ends} {pos p pos' apos : Pos} {tg a b c ex o : Expr} {es : List Expr} {rest : List Stmt} {d x y z : D} {ds ds' es' : List D} {n m : Str} {k j : Nat} {ks ks' : List Key}
/-- for k in d: .. (no return, no break) -/
theorem at_forD {body : List Stmt} {ef : DE → D → DE} {Pd : D → Prop} {α : Nat → Type} (P : (i : Nat) → α i → Prop) (E : (i : Nat) → α i → DE) (C : (i : Nat) → α i → Cs) (j : Nat) (hj : e[j]? = some (some (.dic ks ds))) (ht : LTg X tg ef Pd) (hP : ∀ k ∈ ks, Pd (keyD k)) (g0 : α 0) (p0 : P 0 g0) (e0 : E 0 g0 = e) (c0 : C 0 g0 = cs)
    (hdm : ∀ i g, P i g → dom (C i g) = dom cs)
    (turn : ∀ (i : Nat) (k : Key) (g : α i) (H1 : Hp) (rt : VK) (bk : L2.St → Hp → Prop), ks[i]? = some k → P i g → At X M (ef (E i g) (keyD k)) (C i g) [(dom cs, H1)] (wSs X body { nx := Inv' X M [(dom cs, H1)] (P (i + 1)) (E (i + 1)) (C (i + 1)), ct := Inv' X M [(dom cs, H1)] (P (i + 1)) (E (i + 1)) (C (i + 1)), rt := rt, bk := bk }))
    (k : ∀ g, P ks.length g → At X M (E ks.length g) (C ks.length g) fr (wSs X rest D0))
    (hjN : X.N[j]? = some n := by rfl) (hv : Vis X.env.scope n := by first | exact Or.inl rfl | exact Or.inr (Or.inl rfl) | exact Or.inr (Or.inr rfl)) (h1 : (n == ("__debug__" : Str)) = false := by decide) (h2 : (n == ("__classdict__" : Str)) = false := by decide)
    (hc : X.calm = true := by rfl) (hp : PassesOwn (model X.prog X.w) X.A X.env X.xe := by first | exact PassesOwn.never | exact passes_of rfl) (hs : ∀ x, foldedSetIterable (.Name n p) X.env x = pure x := by intro _; rfl) :
    At X M e cs fr (wSs X (.For tg (.Name n p) body [] pos :: rest) D0) := fun σ H S x l => by
  obtain ⟨v, hsv, r⟩ := S.env j _ hj
  unfold R at r
  obtain ⟨ad, vs, rfl, nm, hrd, hlen, rs⟩ := r
  have nd : ad ∉ dom cs := fun z => by
    obtain ⟨q, hq, rfl⟩ := List.mem_map.mp z
    exact nm (S.cel q hq).1
  obtain ⟨g, hg, hgk⟩ := ht.k
  have hmap : ((ks.zip vs).map (·.1)).map keyD = ks.map keyD := by rw [List.map_fst_zip (by omega)]
  obtain ⟨_, wi, hpi, ki⟩ : EIF (FrzAt j ad (ks.zip vs)) X M e cs tg (.Name n p) (ks.map keyD) cs := hmap ▸ ei_keys j nm hjN hv h1 h2
  -- the loop in a locked state
  have core : ∀ (D1 : Ends) (H0 : Hp), FrzAt j ad (ks.zip vs) σ H0 → Sit X.K X.mg M σ H0 e cs → (∀ g σ' H', P ks.length g → Sit X.K X.mg M σ' H' (E ks.length g) (C ks.length g) → Ext (dom cs) H0 H' → D1.nx σ' H') → tFor wi g (fun D σ H => wSs X body D σ H) D1 σ H0 := fun D1 H0 hF S0 kk => by
    refine ki σ H0 _ hF S0 fun J H1 S1 x1 wk => ?_
    have ly : Lo [(dom cs, H1)] cs := fun f hf a ha => by
      rcases List.mem_singleton.mp hf with rfl
      exact .inl ha
    refine ⟨fun i m σ H => m = ks.length - i ∧ i ≤ ks.length ∧ Inv' X M [(dom cs, H1)] (P i) (E i) (C i) σ H, ⟨ks.length, by simp, Nat.zero_le _, g0, p0, by rw [e0, c0]; exact S1, fun f hf => ?_⟩, ?_⟩
    · rcases List.mem_singleton.mp hf with rfl
      exact Ext.refl _ _
    rintro i m σ2 H2 ⟨rfl, hil, gi, pg, S2, x2⟩
    have x3 : Ext (dom cs) H1 H2 := x2 _ List.mem_cons_self
    obtain ⟨w1, w2⟩ := wk M H2 (fun a o nm h => ⟨nm, S1.keeps x3 a o nm h⟩) S2.mt
    have ly2 := lo_of ly (hdm _ _ pg)
    by_cases hlt : i < ks.length
    · obtain ⟨q, hq⟩ : ∃ q, ks[i]? = some q := ⟨_, List.getElem?_eq_getElem hlt⟩
      have hd : (ks.map keyD)[i]? = some (keyD q) := by rw [List.getElem?_map, hq]; rfl
      obtain ⟨q1, q2⟩ := w1 i _ hd
      refine .inr ⟨q1, Inv' X M [(dom cs, H1)] (P (i + 1)) (E (i + 1)) (C (i + 1)), fun σ' H' p' => ⟨ks.length - (i + 1), by omega, rfl, hlt, p'⟩, fun x H3 y => ?_⟩
      obtain ⟨x4, r4⟩ := q2 x H3 y
      have S3 := S2.ex x4
      exact hgk M _ _ σ2 H3 x _ _ (hP q (List.mem_of_getElem? hq)) S3 r4 fun σ' S4 => turn i q gi H1 _ _ hq pg σ' H3 S4 (ext_on x2 ly2 (x4.mono (by simp))) ly2
    · have e9 : i = ks.length := by omega
      subst e9
      refine .inl ⟨by rw [List.length_map] at w2; exact w2, kk gi σ2 H2 pg S2 (x1.trans x3)⟩
  rcases hrd with hrd | ⟨ob, hrd⟩
  · refine wss_of (pss_cons (ps_lock (ps_for hp hc hpi hg pss_w hs)) pss_w) ⟨ad, _, hrd, trivial, fun od => ?_⟩
    refine core _ _ ⟨hsv, od, upd_same⟩ (S.swp (lock_swp hrd) nm) fun g σ' H' pg S' x' => ?_
    have hfz : H' ad = some (.frz od (.dK (ks.zip vs))) := x' ad _ upd_same nd
    exact ⟨hfz, k g pg σ' _ (S'.swp (unlock_swp hfz) nm) (ext_on x l (ext_lock hrd nd x')) (lo_of l (hdm _ _ pg))⟩
  · refine wss_of (pss_cons (ps_for hp hc hpi hg pss_w hs) pss_w) ?_
    exact core _ _ ⟨hsv, ob, hrd⟩ S fun g σ' H' pg S' x' => k g pg σ' H' S' (ext_on x l x') (lo_of l (hdm _ _ pg))
/-! ### a dict that grows -/
theorem valV_none {q : Key} : ∀ {ks : List Key} {vs : List V}, q ∉ ks → valV (ks.zip vs) q = none
  | [], _, _ => rfl
  | _ :: _, [], _ => rfl
  | k :: ks, v :: vs, h => by
    have h1 : ¬ (k = q) := fun z => h (z ▸ List.mem_cons_self ..)
    show valV ((k, v) :: ks.zip vs) q = none
    rw [valV_neg (p := (k, v)) h1]
    exact valV_none fun z => h (List.mem_cons_of_mem _ z)
theorem cell_dic {σ : L2.St} {H : Hp} {ad : Addr} (S : Sit X.K X.mg M σ H e cs) (hin : (ad, MC.dic ks ds) ∈ cs) : M ad ∧ ∃ xs, H ad = some (.dK (ks.zip xs)) ∧ ks.length = xs.length ∧ Rs X.K X.mg M H xs ds := S.cel _ hin
/-- name = {} -/
theorem at_setD0 (i : Nat) (kk : ∀ q, ¬ M q → At X (fun b => M b ∨ b = q) (e.set i (some (.ref q))) ((q, .dic [] []) :: cs) fr (wSs X rest D0)) (hN : X.N.Nodup) (hi : X.N[i]? = some n := by rfl) (hx : Loc X.env.scope n := by first | exact .inl rfl | exact .inr rfl)
    (hs : swapsWith (.Dict [] [] pos) (some (.Name n pos')) p.line X.env = pure false := by rfl) (hf : X.fn n = true ∨ X.env.scope.names.lookup n = some .local := by first | exact .inl rfl | exact .inr rfl) : At X M e cs fr (wSs X (.Assign [.Name n pos'] (.Dict [] [] pos) p :: rest) D0) := fun σ H S xx l =>
  wss_of (pss_cons (ps_set hN hi hx pe_dnewK hs hf) pss_w) fun q hq => by
    have S2 := S.mark (p := q) (o := .dK []) hq
    have S3 : Sit X.K X.mg (fun b => M b ∨ b = q) σ (upd H q (.dK [])) e ((q, .dic [] []) :: cs) := by
      refine ⟨S2.mt, S2.len, S2.env, fun c hc => ?_, ?_⟩
      · rcases List.mem_cons.mp hc with rfl | hc
        · exact ⟨.inr rfl, [], upd_same, rfl, .nil⟩
        · exact S2.cel c hc
      · show (q :: cs.map (·.1)).Nodup
        refine List.nodup_cons.mpr ⟨fun z => ?_, S.nd⟩
        obtain ⟨c, hc, e⟩ := List.mem_map.mp z
        exact (S.cel c hc).2.ne (e ▸ hq)
    refine kk q (new_m S.mt hq) _ _ (S3.set i (by simp [R])) (ext_on xx l (Ext.new hq)) ?_
    intro f0 hf0 b hb
    rcases List.mem_cons.mp hb with rfl | hb
    · by_cases h : b ∈ f0.1
      · exact .inl h
      · right
        cases h2 : f0.2 b with
        | none => rfl
        | some o =>
          have := xx f0 hf0 b o h2 h
          rw [hq] at this; cases this
    · exact l f0 hf0 b hb
/-- d[s] = x, a new key -/
theorem at_dputN {ad : Addr} {s : Str} {pt : Pos} (hv : EE X M e cs ex d cs1) (ha : EE X M e cs1 a (.ref ad) cs1) (hb : EE X M e cs1 b (.str s) cs1) (hu1 : Upd1 ad (.dic ks ds) (.dic (ks ++ [Sum.inr s]) (ds ++ [d])) cs1 cs2) (hn : (Sum.inr s : Key) ∉ ks) (hl : ks.length < 100000) (hu : X.A.units + 1 < cLine)
    (k : At X M e cs2 fr (wSs X rest D0)) (hs : swapsWith ex (some (.Subscript a b pt)) pos.line X.env = pure false := by rfl) : At X M e cs fr (wSs X (.Assign [.Subscript a b pt] ex pos :: rest) D0) := fun σ H S x l =>
  wss_of (pss_cons (ps_dput hu pe_w pe_w pe_w hs) pss_w) (hv.k σ H _ S fun v H1 S1 x1 r1 => ha.k σ H1 _ S1 fun w H2 S2 x2 r2 => hb.k σ H2 _ S2 fun u H3 S3 x3 r3 => by
    simp only [R] at r2 r3
    subst r2 r3
    obtain ⟨mm, xs, h3, hlen, rs⟩ := cell_dic S3 hu1.mem
    have r1' := S2.r x3 (S1.r x2 r1)
    have hput : putK (ks.zip xs) (Sum.inr s : Key) v = (ks ++ [Sum.inr s]).zip (xs ++ [v]) := by
      rw [putK_new v (valV_none hn), List.zip_append hlen]; rfl
    refine ⟨ad, upd H3 ad (.dK ((ks ++ [Sum.inr s]).zip (xs ++ [v]))), rfl, ?_, ?_⟩
    · rw [← hput]
      exact DPut.k (k := (Sum.inr s : Key)) h3 (by rw [List.length_zip]; exact Nat.lt_of_lt_of_le (by omega : min ks.length xs.length < 100000) (by decide))
    have hnm : ∀ b o, ¬ M b → H3 b = some o → upd H3 ad (.dK ((ks ++ [Sum.inr s]).zip (xs ++ [v]))) b = some o := fun b o nb h => by rw [upd_ne (fun z => nb (by rw [z]; exact mm))]; exact h
    refine k σ _ (sit_put S3 hu1 ⟨_, upd_same, by simp [hlen], Rs.ext hnm (fun _ n _ => n) _ (rs.append (.cons r1' .nil))⟩) ?_ (lo_of l (hu1.dm.trans hv.dm))
    have l1 : Lo fr cs1 := lo_of l hv.dm
    exact ext_on (ext_on (ext_on (ext_on x l x1) l1 x2) l1 x3) l1 (ext_put hu1.dom))
/-- s in d, s not in d; d may change -/
theorem t_dinc {ad : Addr} {s : Str} (hb : EE X M e cs b (.str s) cs) (ha : EE X M e cs a (.ref ad) cs) (hin : (ad, MC.dic ks ds) ∈ cs) (hu : X.A.units + 1 < cLine) (hm : behindInMarks CmpOp.In a = false := by rfl) : ET X M e cs (.Compare b [.In] [a] pos) (dvl ks ds (Sum.inr s)).isSome cs where
  dm := rfl
  k := fun σ H Q S k => wt_of (pt_cmp (pc_din hu pe_w pe_w) hm) (hb.k σ H _ S fun v2 H1 S1 x1 r2 => ha.k σ H1 _ S1 fun v H2 S2 x2 r1 => by
    simp only [R] at r2 r1
    subst r2 r1
    obtain ⟨mm, xs, h3, hlen, rs⟩ := cell_dic S2 hin
    refine ⟨ad, _, rfl, DGet.k (k := (Sum.inr s : Key)) h3, _, rfl, ?_⟩
    have : (valV (ks.zip xs) (Sum.inr s : Key)).isSome = (dvl ks ds (Sum.inr s)).isSome := by
      rcases dvl_rel (k := (Sum.inr s : Key)) hlen rs with ⟨e1, e2⟩ | ⟨v, d, e1, e2, r⟩
      · rw [e1, e2]; rfl
      · rw [e1, e2]; rfl
    rw [this]
    exact k H2 S2 (x1.trans x2))
theorem t_dninc {ad : Addr} {s : Str} (hb : EE X M e cs b (.str s) cs) (ha : EE X M e cs a (.ref ad) cs) (hin : (ad, MC.dic ks ds) ∈ cs) (hu : X.A.units + 1 < cLine) (hm : behindInMarks CmpOp.NotIn a = false := by rfl) : ET X M e cs (.Compare b [.NotIn] [a] pos) (!(dvl ks ds (Sum.inr s)).isSome) cs where
  dm := rfl
  k := fun σ H Q S k => wt_of (pt_cmp (pc_dnotin hu pe_w pe_w) hm) (hb.k σ H _ S fun v2 H1 S1 x1 r2 => ha.k σ H1 _ S1 fun v H2 S2 x2 r1 => by
    simp only [R] at r2 r1
    subst r2 r1
    obtain ⟨mm, xs, h3, hlen, rs⟩ := cell_dic S2 hin
    refine ⟨ad, _, rfl, DGet.k (k := (Sum.inr s : Key)) h3, _, rfl, ?_⟩
    have : (valV (ks.zip xs) (Sum.inr s : Key)).isSome = (dvl ks ds (Sum.inr s)).isSome := by
      rcases dvl_rel (k := (Sum.inr s : Key)) hlen rs with ⟨e1, e2⟩ | ⟨v, d, e1, e2, r⟩
      · rw [e1, e2]; rfl
      · rw [e1, e2]; rfl
    rw [this]
    exact k H2 S2 (x1.trans x2))
/-- s not in d, d as a value -/
theorem t_dnin {s : Str} (hb : EE X M e cs b (.str s) cs1) (ha : EE X M e cs1 a (.dic ks ds) cs2) (hu : X.A.units + 1 < cLine) (hm : behindInMarks CmpOp.NotIn a = false := by rfl) : ET X M e cs (.Compare b [.NotIn] [a] pos) (!(dvl ks ds (Sum.inr s)).isSome) cs2 where
  dm := ha.dm.trans hb.dm
  k := fun σ H Q S k => wt_of (pt_cmp (pc_dnotin hu pe_w pe_w) hm) (hb.k σ H _ S fun v2 H1 S1 x1 r2 => ha.k σ H1 _ S1 fun v H2 S2 x2 r1 => by
    unfold R at r1
    obtain ⟨ad, xs, rfl, nm, h1, hl, rs⟩ := r1
    simp only [R] at r2
    subst r2
    refine ⟨ad, _, rfl, dget_rd (k := (Sum.inr s : Key)) h1, _, rfl, ?_⟩
    have : (valV (ks.zip xs) (Sum.inr s : Key)).isSome = (dvl ks ds (Sum.inr s)).isSome := by
      rcases dvl_rel (k := (Sum.inr s : Key)) hl rs with ⟨e1, e2⟩ | ⟨v, d, e1, e2, r⟩
      · rw [e1, e2]; rfl
      · rw [e1, e2]; rfl
    rw [this]
    exact k H2 S2 (x1.trans (by rw [← hb.dm]; exact x2)))
/-! ### what may change becomes a value -/
def MC.val : MC → D
  | .lst ds => .lst ds
  | .dic ks ds => .dic ks ds
  | .obj c ns ds => .obj c ns ds
  | .tab _ => .non
def MC.isTab : MC → Bool
  | .tab _ => true
  | _ => false
theorem at_pure {q : Addr} {mc : MC} {P : L2.St → Hp → Prop} (i : Nat) (hi : e[i]? = some (some (.ref q))) (nq : ¬ M q) (h : At X M (e.set i (some mc.val)) cs fr P) (ht : mc.isTab = false := by rfl) : At X (fun b => M b ∨ b = q) e ((q, mc) :: cs) fr P := fun σ H S x l => by
  have un : ∀ b, ¬ (M b ∨ b = q) → H b ≠ none → ¬ M b := fun b n _ z => n (.inl z)
  have nd := (List.nodup_cons.mp (show (q :: cs.map (·.1)).Nodup from S.nd))
  have hilt : i < e.length := by
    cases Nat.lt_or_ge i e.length with
    | inl z => exact z
    | inr z => rw [List.getElem?_eq_none z] at hi; cases hi
  refine h σ H ⟨fun a m => S.mt a (.inl m), by rw [List.length_set]; exact S.len, fun j d hj => ?_, fun p hp => ?_, nd.2⟩ x fun f0 hf0 b hb => l f0 hf0 b (List.mem_cons_of_mem _ hb)
  · by_cases hij : i = j
    · subst hij
      rw [List.getElem?_set_self hilt] at hj
      cases hj
      obtain ⟨v, e1, r⟩ := S.env i _ hi
      simp only [R] at r
      subst r
      refine ⟨_, e1, ?_⟩
      have hc := (S.cel _ (List.mem_cons_self ..)).2
      cases mc with
      | tab _ => cases ht
      | lst ds =>
        obtain ⟨xs, hq, rs⟩ := hc
        show R X.K X.mg M H (.ref q) (.lst ds)
        unfold R
        exact ⟨q, xs, rfl, nq, hq, Rs.ext (fun _ _ _ h => h) un _ rs⟩
      | dic ks ds =>
        obtain ⟨xs, hq, hl, rs⟩ := hc
        show R X.K X.mg M H (.ref q) (.dic ks ds)
        unfold R
        exact ⟨q, xs, rfl, nq, .inl hq, hl, Rs.ext (fun _ _ _ h => h) un _ rs⟩
      | obj c ns ds =>
        obtain ⟨C, dx, xs, g, hq, hl, rs⟩ := hc
        show R X.K X.mg M H (.ref q) (.obj c ns ds)
        unfold R
        exact ⟨q, C, dx, xs, rfl, nq, g, hq, hl, Rs.ext (fun _ _ _ h => h) un _ rs⟩
    · rw [List.getElem?_set_ne hij] at hj
      obtain ⟨v, e1, r⟩ := S.env j d hj
      exact ⟨v, e1, R.ext (fun _ _ _ h => h) un d r⟩
  · obtain ⟨m, c⟩ := S.cel p (List.mem_cons_of_mem _ hp)
    have ne : p.1 ≠ q := fun z => nd.1 (z ▸ List.mem_map_of_mem (f := (·.1)) hp)
    exact ⟨m.resolve_right ne, c.ext (fun _ _ _ h => h) un fun _ h => h⟩
/-- a mark that is not needed any more -/
theorem at_unmark {q : Addr} {mc : MC} {P : L2.St → Hp → Prop} (h : At X M e cs fr P) : At X (fun b => M b ∨ b = q) e ((q, mc) :: cs) fr P := fun σ H S x l => by
  have un : ∀ b, ¬ (M b ∨ b = q) → H b ≠ none → ¬ M b := fun b n _ z => n (.inl z)
  have nd := (List.nodup_cons.mp (show (q :: cs.map (·.1)).Nodup from S.nd))
  refine h σ H ⟨fun a m => S.mt a (.inl m), S.len, fun j d hj => ?_, fun p hp => ?_, nd.2⟩ x fun f0 hf0 b hb => l f0 hf0 b (List.mem_cons_of_mem _ hb)
  · obtain ⟨v, e1, r⟩ := S.env j d hj
    exact ⟨v, e1, R.ext (fun _ _ _ h => h) un d r⟩
  · obtain ⟨m, c⟩ := S.cel p (List.mem_cons_of_mem _ hp)
    have ne : p.1 ≠ q := fun z => nd.1 (z ▸ List.mem_map_of_mem (f := (·.1)) hp)
    exact ⟨m.resolve_right ne, c.ext (fun _ _ _ h => h) un fun _ h => h⟩
/-! ### dict(pairs), sorted(dict) -/
def kpairs : List Key → List D → List D
  | k :: ks, d :: ds => .tup [keyD k, d] :: kpairs ks ds
  | _, _ => []
theorem r_keyI {H : Hp} {v : V} {q : Key} (r : R X.K X.mg M H v (keyD q)) : v = kV q := by
  cases q <;> simpa [keyD, kV, R] using r
theorem pairs_rel {H : Hp} : ∀ {ks : List Key} {ds : List D} {vs : List V}, ks.length = ds.length → Rs X.K X.mg M H vs (kpairs ks ds) →
    ∃ (ps : List Addr) (us : List V), vs = ps.map V.ref ∧ ks.length = us.length ∧ Paired (fun p kv => SqT X.K H p [kV kv.1, kv.2]) ps (ks.zip us) ∧ Rs X.K X.mg M H us ds
  | [], [], vs, _, r => by
    cases vs with
    | nil => exact ⟨[], [], rfl, rfl, .nil, .nil⟩
    | cons => unfold kpairs Rs at r; exact r.elim
  | q :: ks, d :: ds, vs, hl, r => by
    cases vs with
    | nil => unfold kpairs Rs at r; exact r.elim
    | cons v vs =>
      unfold kpairs Rs at r
      obtain ⟨r1, r2⟩ := r
      obtain ⟨ps, us, e1, e2, e3, e4⟩ := pairs_rel (by simpa using hl) r2
      obtain ⟨ad, ys, rfl, hq, hys⟩ := r_tup r1
      obtain ⟨y1, y2, rfl, g1, g2⟩ := rs2 hys
      obtain rfl := r_keyI g1
      exact ⟨ad :: ps, y2 :: us, by rw [e1]; rfl, by simp [e2], .cons hq e3, .cons g2 e4⟩
  | [], _ :: _, _, hl, _ => by simp at hl
  | _ :: _, [], _, hl, _ => by simp at hl
theorem kd_dictP {xs : List D} (hx : xs = kpairs ks ds) (hl : ks.length = ds.length) (hn : ks.Nodup) (hc : X.calm = true := by rfl) : CalD X (.type "dict") [.lst xs] (.dic ks ds) := ⟨_, call_dictP hc, fun M H vs Q mt hv k => by
  obtain ⟨v, rfl, hw⟩ := rs1 hv
  obtain ⟨a, ws, rfl, nm, ha, ra⟩ := r_lst hw
  subst hx
  obtain ⟨ps, us, rfl, e2, e3, e4⟩ := pairs_rel hl ra
  refine ⟨a, ps, ks.zip us, rfl, .of ha, e3, fun p hp => ?_⟩
  have hm : mergeK [] (ks.zip us) = ks.zip us := by
    rw [mergeK_new (ks.zip us) [] (by rw [List.nil_append, List.map_fst_zip (by omega)]; exact hn)]; rfl
  rw [hm]
  refine k _ _ (Ext.new hp) ?_
  unfold R
  exact ⟨p, us, rfl, new_m mt hp, .inl upd_same, e2, Rs.ext (fun a o _ h => by rw [upd_ne (ne_of_none h hp)]; exact h) (fun _ n _ => n) _ e4⟩⟩
theorem kd_sortedD {ss ts : List Str} (hk : ks = ss.map Sum.inr) (hl : ss.length < 64) (h : ∀ ys : List Str, ys.Perm ss → PyProof.Rows.sortedS ys = true → ys = ts) (hc : X.calm = true := by rfl) : CalD X (.builtin "sorted") [.dic ks ds] (.lst (ts.map D.str)) := ⟨_, call_sortedD hc, fun M H vs Q mt hv k => by
  obtain ⟨v, rfl, hw⟩ := rs1 hv
  unfold R at hw
  obtain ⟨a, xs, rfl, nm, ha, hlen, ra⟩ := hw
  refine ⟨a, ks.zip xs, ss, rfl, ha, by rw [List.map_fst_zip (by omega), hk], hl, fun ys p h1 h2 hp => ?_⟩
  obtain rfl := h ys h1 h2
  exact k _ _ (Ext.new hp) (r_newl mt hp (Rs.strs.mpr rfl))⟩
end
end Od

set_option Elab.async false
set_option linter.all false
set_option maxRecDepth 100000
set_option maxHeartbeats 4000000
/-! Od30: several names at once, new lists among them; xs.pop(); comprehensions whose test changes the cells; try whose body raises nothing. -/
namespace Od
open PySem L2 TL PySem.Spec
section
variable {X : Cx} {M : Addr → Prop} {e : DE} {cs cs1 cs2 cs3 : Cs} {fr : Frs} {D0 : Ends} {pos p pos' apos : Pos} {a b c ex o tg : Expr} {es es2 : List Expr} {rest : List Stmt} {d x y z : D} {ds ds2 : List D} {n m : Str} {k j : Nat}
theorem sit_new {σ : L2.St} {H1 : Hp} {vs : List V} {q : Addr} (S1 : Sit X.K X.mg M σ H1 e cs1) (r1 : Rs X.K X.mg M H1 vs ds) (hq : H1 q = none) : Sit X.K X.mg (fun b => M b ∨ b = q) σ (upd H1 q (.lst vs)) e ((q, .lst ds) :: cs1) := by
  have kp : ∀ b o, H1 b = some o → upd H1 q (.lst vs) b = some o := fun b o h => by rw [upd_ne (ne_of_none h hq)]; exact h
  have mr : ∀ b, ¬ M b → H1 b ≠ none → ¬ (M b ∨ b = q) := fun b h1 h2 z => z.elim h1 fun z => h2 (z ▸ hq)
  have S2 := S1.mark (p := q) (o := .lst vs) hq
  refine ⟨S2.mt, S2.len, S2.env, fun c hc => ?_, ?_⟩
  · rcases List.mem_cons.mp hc with rfl | hc
    · exact ⟨.inr rfl, vs, upd_same, Rs.ext (fun b o _ h => kp b o h) mr _ r1⟩
    · exact S2.cel c hc
  · show (q :: cs1.map (·.1)).Nodup
    refine List.nodup_cons.mpr ⟨fun z => ?_, S1.nd⟩
    obtain ⟨c, hc, e⟩ := List.mem_map.mp z
    exact (S1.cel c hc).2.ne (e ▸ hq)
theorem lo_new {H : Hp} {q : Addr} {mc : MC} (xx : Fr fr H) (l : Lo fr cs) (hq : H q = none) : Lo fr ((q, mc) :: cs) := fun f0 hf0 b hb => by
  rcases List.mem_cons.mp hb with rfl | hb
  · by_cases h : b ∈ f0.1
    · exact .inl h
    · right
      cases z : f0.2 b with
      | none => rfl
      | some o =>
        have := xx f0 hf0 b o z h
        rw [this] at hq; cases hq
  · exact l f0 hf0 b hb
/-- x, y = ([..], v): x a list that changes from here on -/
theorem at_parL {px py pt pt2 pl : Pos} {kt k2} (i j : Nat) (ha : EA X M e cs es ds cs1) (hl : ds.length ≤ 100000) (hb : ∀ q, ¬ M q → EE X (fun b => M b ∨ b = q) e ((q, .lst ds) :: cs1) b y ((q, .lst ds) :: cs2)) (hd2 : dom cs2 = dom cs1)
    (kk : ∀ q, ¬ M q → At X (fun b => M b ∨ b = q) ((e.set i (some (.ref q))).set j (some y)) ((q, .lst ds) :: cs2) fr (wSs X rest D0))
    (ps : ∀ ta, PA X [.List es pl, b] ta → PS X (.Assign [.Tuple [.Name n px, .Name m py] kt pt] (.Tuple [.List es pl, b] k2 pt2) pos) (tPar i j ta)) (hst : starEach [.List es pl, b] X.env = (false, eval (.List es pl) X.env) :: starEach [b] X.env := by rfl) (hst2 : starEach [b] X.env = (false, eval b X.env) :: starEach [] X.env := by rfl) :
    At X M e cs fr (wSs X (.Assign [.Tuple [.Name n px, .Name m py] kt pt] (.Tuple [.List es pl, b] k2 pt2) pos :: rest) D0) := fun σ H S xx l => by
  refine wss_of (pss_cons (ps _ (pa_cons (pe_lst pa_w) (pa_cons pe_w pa_nil hst2) hst)) pss_w) ?_
  refine ha.k σ H _ S fun vs H1 S1 x1 r1 => ⟨by rw [r1.length]; exact Nat.le_trans hl (by decide), fun q hq => ?_⟩
  have nq := new_m S1.mt hq
  have F1 := ext_on xx l x1
  have L1 := lo_of l ha.dm
  refine (hb q nq).k σ _ _ (sit_new S1 r1 hq) fun v H2 S2 x2 r2 => ?_
  refine ⟨.ref q, v, rfl, kk q nq _ H2 ((S2.set i (by simp [R])).set j r2) ?_ ?_⟩
  · exact ext_on (ext_on F1 L1 (Ext.new hq)) (lo_new F1 L1 hq) x2
  · have := lo_new (mc := .lst ds) F1 L1 hq
    exact lo_of this (hb q nq).dm
/-- x, y, z = ([..], [..], v): x and y lists that change from here on -/
theorem at_parLL {px py pz pt pt2 pl pl2 : Pos} {o : Str} {kt k2} (i j h : Nat) (ha : EA X M e cs es ds cs1) (hl : ds.length ≤ 100000) (ha2 : ∀ q, ¬ M q → EA X (fun b => M b ∨ b = q) e ((q, .lst ds) :: cs1) es2 ds2 ((q, .lst ds) :: cs1)) (hl2 : ds2.length ≤ 100000)
    (hb : ∀ q q2, ¬ M q → ¬ (M q2 ∨ q2 = q) → EE X (fun b => (M b ∨ b = q) ∨ b = q2) e ((q2, .lst ds2) :: (q, .lst ds) :: cs1) b y ((q2, .lst ds2) :: (q, .lst ds) :: cs1))
    (kk : ∀ q q2, ¬ M q → ¬ (M q2 ∨ q2 = q) → At X (fun b => (M b ∨ b = q) ∨ b = q2) (((e.set i (some (.ref q))).set j (some (.ref q2))).set h (some y)) ((q2, .lst ds2) :: (q, .lst ds) :: cs1) fr (wSs X rest D0))
    (ps : ∀ ta, PA X [.List es pl, .List es2 pl2, b] ta → PS X (.Assign [.Tuple [.Name n px, .Name m py, .Name o pz] kt pt] (.Tuple [.List es pl, .List es2 pl2, b] k2 pt2) pos) (tPar3 i j h ta))
    (hst : starEach [.List es pl, .List es2 pl2, b] X.env = (false, eval (.List es pl) X.env) :: starEach [.List es2 pl2, b] X.env := by rfl) (hst1 : starEach [.List es2 pl2, b] X.env = (false, eval (.List es2 pl2) X.env) :: starEach [b] X.env := by rfl) (hst2 : starEach [b] X.env = (false, eval b X.env) :: starEach [] X.env := by rfl) :
    At X M e cs fr (wSs X (.Assign [.Tuple [.Name n px, .Name m py, .Name o pz] kt pt] (.Tuple [.List es pl, .List es2 pl2, b] k2 pt2) pos :: rest) D0) := fun σ H S xx l => by
  refine wss_of (pss_cons (ps _ (pa_cons (pe_lst pa_w) (pa_cons (pe_lst pa_w) (pa_cons pe_w pa_nil hst2) hst1) hst)) pss_w) ?_
  refine ha.k σ H _ S fun vs H1 S1 x1 r1 => ⟨by rw [r1.length]; exact Nat.le_trans hl (by decide), fun q hq => ?_⟩
  have nq := new_m S1.mt hq
  have F1 := ext_on xx l x1
  have L1 := lo_of l ha.dm
  have L2 := lo_new (mc := .lst ds) F1 L1 hq
  have F2 := ext_on F1 L1 (show Ext (dom cs1) H1 (upd H1 q (.lst vs)) from Ext.new hq)
  refine (ha2 q nq).k σ _ _ (sit_new S1 r1 hq) fun vs2 H2 S2 x2 r2 => ⟨by rw [r2.length]; exact Nat.le_trans hl2 (by decide), fun q2 hq2 => ?_⟩
  have nq2 := new_m S2.mt hq2
  have F3 := ext_on F2 L2 x2
  have L3 := lo_new (mc := .lst ds2) F3 L2 hq2
  have F4 := ext_on F3 L2 (show Ext (dom ((q, MC.lst ds) :: cs1)) H2 (upd H2 q2 (.lst vs2)) from Ext.new hq2)
  refine (hb q q2 nq nq2).k σ _ _ (sit_new S2 r2 hq2) fun v H3 S3 x3 r3 => ?_
  exact ⟨.ref q, .ref q2, v, rfl, kk q q2 nq nq2 _ H3 (((S3.set i (by simp [R])).set j (by simp [R])).set h r3) (ext_on F4 L3 x3) L3⟩
/-- x.pop() -/
theorem e_pop {ad : Addr} (ho : EE X M e cs o (.ref ad) cs) (hu : Upd1 ad (.lst (ds ++ [d])) (.lst ds) cs cs2)
    (hpe : PE X (.Call (.Attribute o "pop" apos) [] [] pos) (tBM0 X.K "list" rPop (wE X o)) := by exact pe_bm0 PySem.F.plainAttrs_list PySem.F.slot_list_pop PySem.F.type_list_pop mt_pop pe_w) : EE X M e cs (.Call (.Attribute o "pop" apos) [] [] pos) d cs2 where
  dm := hu.dm
  k := fun σ H Q S k => by
    refine we_of hpe (ho.k σ H _ S fun v H1 S1 x1 r1 => ?_)
    simp only [R] at r1
    subst r1
    obtain ⟨mm, xs, h3, rs⟩ := cell_lst S1 hu.mem
    refine ⟨.inl ⟨rfl, xs, .of h3⟩, ad, xs, ?_⟩
    have hlen : xs.length = ds.length + 1 := by rw [rs.length]; simp
    obtain ⟨w, hw, rw'⟩ := rs.get (i := ds.length) (d := d) (by simp)
    have hdl : Rs X.K X.mg M H1 xs.dropLast ds := by
      have := rs.take ds.length
      rw [List.take_left] at this
      rw [List.dropLast_eq_take, hlen]
      exact this
    have hnm : ∀ b o, ¬ M b → H1 b = some o → upd H1 ad (.lst xs.dropLast) b = some o := fun b o nb h => by rw [upd_ne (fun z => nb (by rw [z]; exact mm))]; exact h
    exact ⟨w, rfl, rfl, h3, by rw [hlen]; exact hw, k _ _ (sit_put S1 hu ⟨_, upd_same, Rs.ext hnm (fun _ n _ => n) _ hdl⟩) (x1.trans (ext_put hu.dom)) (R.ext hnm (fun _ n _ => n) _ rw')⟩
end
section
variable {α : Type} {X : Cx} {M : Addr → Prop} {e : DE} {cs cs1 : Cs} {pos : Pos} {tg : Expr}
/-- [elt for tg in iter if c], the test may change the cells -/
theorem e_lcFS {scope : Scope} (own : List (Str × Nat)) {iter elt c : Expr} {ef : D → DE} {P : D → Prop} (xs : List α) (g : α → D) (S : Nat → Cs) (keep : Nat → Bool) (out : Nat → D) (hi : EI X M e cs tg iter (xs.map g) cs1) (ht : CTg X scope (own.map (·.2)) e tg ef P) (hP : ∀ x ∈ xs, P (g x)) (hn : xs.length ≤ 100000) (hS0 : S 0 = cs1) (hSd : ∀ i, dom (S i) = dom cs1)
    (test : ∀ (i : Nat) (x : α), xs[i]? = some x → ∀ (M' : Addr → Prop), (∀ a, M a → M' a) → ∀ (s : Shared) (H : Hp) (C : Addr) (cl : List (Str × Addr)) (fp : List Addr), ET (blkOf X scope s H C cl fp) M' (ef (g x)) (S i) c (keep i) (S (i + 1)))
    (turn : ∀ (i : Nat) (x : α), xs[i]? = some x → keep i = true → ∀ (M' : Addr → Prop), (∀ a, M a → M' a) → ∀ (s : Shared) (H : Hp) (C : Addr) (cl : List (Str × Addr)) (fp : List Addr), EE (blkOf X scope s H C cl fp) M' (ef (g x)) (S (i + 1)) elt (out i) (S (i + 1)))
    (ok : BlkOk X.N X.env.scope scope own) (hN : X.N.Nodup) (hc : X.calm = true := by rfl) (hs : ∀ x, foldedSetIterable iter X.env x = pure x := by intro _; rfl) :
    EE X M e cs (.ListComp elt [⟨tg, iter, [c], 0⟩] scope pos) (.lst (outs keep out xs.length)) (S xs.length) where
  dm := (hSd _).trans hi.dm
  k := fun σ H Q St k => by
    have hmem : ∀ d ∈ xs.map g, P d := fun d hd => by
      obtain ⟨x, hx, rfl⟩ := List.mem_map.mp hd
      exact hP x hx
    have get : ∀ (i : Nat) (d : D), (xs.map g)[i]? = some d → ∃ x, xs[i]? = some x ∧ d = g x := fun i d hd => by
      rw [List.getElem?_map] at hd
      cases h : xs[i]? with
      | none => rw [h] at hd; cases hd
      | some x => rw [h] at hd; exact ⟨x, rfl, (Option.some.inj hd).symm⟩
    obtain ⟨t, h1, h2, _⟩ := lc_core' (pos := pos) (elt := elt) (ifs := [c]) hi ht hmem S (fun i => S (i + 1)) keep out hS0 hSd (fun i => hSd _) (by simpa using hn)
      (fun σ H Q => ∀ (s : Shared) (H0 : Hp) (C : Addr) (cl : List (Str × Addr)) (fp : List Addr), wT (blkOf X scope s H0 C cl fp) c σ H Q) (fun s H C cl fp => pts_one ⟨fun pins s1 σ H1 Q I h => h s H C cl fp pins s1 I⟩)
      (fun i d hd M' hM σ H Q S' k s0 H0 C cl fp => by
        obtain ⟨x, q1, rfl⟩ := get i d hd
        exact (test i x q1 M' hM s0 H0 C cl fp).k σ H Q S' fun H' S2 x2 => k H' S2 (by rw [← hSd i]; exact x2))
      (fun i d hd hk M' hM s H C cl fp => by
        obtain ⟨x, hx, rfl⟩ := get i d hd
        exact turn i x hx hk M' hM s H C cl fp) (fun i d hd h => rfl) hc hN ok hs
    refine we_of h1 (h2 σ H Q St fun v H' S' x' r' => ?_)
    rw [List.length_map] at S' r'
    exact k v H' S' x' r'
end
section
variable {X : Cx} {M : Addr → Prop} {e : DE} {cs cs1 : Cs} {fr : Frs} {D0 : Ends} {pos pos2 : Pos} {ex : Expr} {rest : List Stmt} {d : D} {h0 : ExceptHandler} {hs : List ExceptHandler}
/-- try: return e .. where e raises nothing -/
theorem at_tryret (ha : EE X.nox M e cs ex d cs1) (k : ∀ σ H v, Sit X.K X.mg M σ H e cs1 → Fr fr H → R X.K X.mg M H v d → D0.rt v H) : At X M e cs fr (wSs X (.Try [.Return (some ex) pos2] (h0 :: hs) [] [] pos :: rest) D0) := fun σ H S x l =>
  wss_of (pss_cons (ps_try_thru0 (pss_one (ps_ret pe_w))) pss_w) (ha.k σ H _ S fun v H1 S1 x1 r1 => k σ H1 v S1 (ext_on x l x1) r1)
end
theorem at_endV {X : Cx} {M : Addr → Prop} {e : DE} {c0 : Cs} {H0 : Hp} {D0 : Ends} {fr : Frs} {A0 : List Addr} (hfr : (A0, H0) ∈ fr)
    (kq : ∀ v H', (∀ a, M a → H' a ≠ none) → Ext A0 H0 H' → (∀ p ∈ c0, M p.1 ∧ Cell X.K X.mg M H' p.1 p.2) → R X.K X.mg M H' v .non → D0.rt v H') (hq : ∀ σ H, D0.rt .non H → D0.nx σ H) : At X M e c0 fr (wSs X [] D0) := at_nil fun σ H S x l =>
  hq σ H (kq .non H S.mt (x _ hfr) S.cel (by simp [R]))
section
variable {X : Cx} {M : Addr → Prop} {e : DE} {cs cs1 : Cs} {fr : Frs} {D0 : Ends} {pos pos' : Pos} {ex : Expr} {rest : List Stmt} {n : Str}
/-- name += text -/
theorem at_augS {s t : Str} (i : Nat) (hd : e[i]? = some (some (.str s))) (ha : EE X M e cs ex (.str t) cs1) (h : s.length + t.length ≤ sizeLine) (k : At X M (e.set i (some (.str (s ++ t)))) cs1 fr (wSs X rest D0)) (hN : X.N.Nodup) (hi : X.N[i]? = some n := by rfl) (hx : Loc X.env.scope n := by first | exact .inl rfl | exact .inr rfl)
    (hf : X.fn n = true ∨ X.env.scope.names.lookup n = some .local := by first | exact .inl rfl | exact .inr rfl) : At X M e cs fr (wSs X (.AugAssign (.Name n pos') .Add ex pos :: rest) D0) := fun σ H S x l => by
  obtain ⟨v, e1, r⟩ := S.env i _ hd
  simp only [R] at r
  subst r
  refine wss_of (pss_cons (ps_aug hN hi hx pe_w iop_add_str hf) pss_w) ⟨.str s, e1, ha.k σ H _ S fun u H1 S1 x1 r1 => ?_⟩
  simp only [R] at r1
  subst r1
  exact ⟨s, t, rfl, rfl, h, k _ H1 (S1.set i (by simp [R])) (ext_on x l x1) (lo_of l ha.dm)⟩
end
section
variable {X : Cx} {M : Addr → Prop} {e : DE} {cs cs1 : Cs} {fr : Frs} {D0 : Ends} {pos : Pos} {c : Expr} {rest st st2 : List Stmt}
/-- an if whose branches meet again in one state -/
theorem at_ifJ {b0 : Bool} (e2 : DE) (cs2 : Cs) (hc : ET X M e cs c b0 cs1) (ht : b0 = true → At X M e2 cs2 fr (wSs X rest D0) → At X M e cs1 fr (wSs X st { D0 with nx := wSs X rest D0 })) (hf : b0 = false → At X M e2 cs2 fr (wSs X rest D0) → At X M e cs1 fr (wSs X st2 { D0 with nx := wSs X rest D0 })) (k : At X M e2 cs2 fr (wSs X rest D0)) : At X M e cs fr (wSs X (.If c st st2 pos :: rest) D0) := at_if hc (fun h => ht h k) (fun h => hf h k)
end
end Od

set_option Elab.async false
set_option linter.all false
set_option maxRecDepth 100000
set_option maxHeartbeats 4000000
/-! Od20: an operator of an own instance, the right operand of another kind. -/
namespace PySem.W
open PySem PySem.Spec PySem.Calls PyProof.Rows
section
variable {prog : Program} {w : World} {A : Around} {E : Value → Shared → Prop} {s : Shared} {K : Frag} {x C L f : Addr} {h₀ : Heap} {m : Str → Option Value} {ox : Obj} {od : Option Obj} {T : String}
theorem odBinT {op : Operator} {b : Value} {fo ro rc : Option Value} {Q : Value → Shared → Prop} (F : Fr h₀ L s.heap m) (X₀ : K.In h₀) (I : InstAt s.heap x ox C od) (hb : Looks (model prog w) s.heap (typeOf b) (.type T)) (hc : selfFirst K C = true) (hs : findIn K (.ref C) (PySem.dunder op.info.2) = some (some (.ref f))) (hf : isFn K (.ref f) = true)
    (hr : findIn K (.ref C) (dunderR op.info.2) = some rc) (hp : rc = none ∨ ∃ g : Addr, rc = some (.ref g)) (h1 : findIn K (.type T) (PySem.dunder op.info.2) = some fo) (h2 : findIn K (.type T) (dunderR op.info.2) = some ro) (hsub : subIn K (.type T) (.ref C) = some false)
    (h : wpAny (model prog w) A (call (.ref f) [.ref x, b]) (CmpBack Q) E s) : wpAny (model prog w) A (binaryOp op (.ref x) b) Q E s := by
  have X := X₀.keeps F.keep; obtain ⟨cd, rest, hcd, hm⟩ := ksp_first hc
  rcases hi : op.info with ⟨sym, nm'⟩; rw [hi] at hs hr h1 h2; dsimp only at hs hr h1 h2
  have one := ksp_try X I hs hf h; obtain ⟨hh, g, d, tt, os⟩ := s
  have La : Looks (model prog w) hh (typeOf (.ref x)) (.ref C) := I.type
  have Lb : Looks (model prog w) hh (typeOf b) (.type T) := hb
  have Lc : Looks (model prog w) hh (fillsNumberSlot (.ref C) nm') true := fills_K X hcd hm hs
  have Ld : Looks (model prog w) hh (fillsNumberSlot (.type T) nm') ((fo.isSome && !isSeqSlot fo) || (ro.isSome && !isSeqSlot ro)) := ksp_fillsT X h1 h2
  have Le : Looks (model prog w) hh (isSubtype (.type T) (.ref C)) false := looks_subIn X hsub
  have Lf : Looks (model prog w) hh (numberSlotInPython (.ref C) nm') true := ksp_inPy X hs hr hp
  have Lg : Looks (model prog w) hh (numberSlotInPython (.type T) nm') false := Looks.of_pure rfl
  have Lh : Looks (model prog w) hh (typeLookup (.type T) (dunderR nm')) ro := looks_findIn X h2
  generalize ((fo.isSome && !isSeqSlot fo) || (ro.isSome && !isSeqSlot ro)) = other at Ld
  have apart : (Value.ref C == Value.type T) = false := Bool.eq_false_iff.mpr fun q => by cases beq_iff_eq.mp q
  simp only [binaryOp, hi]; refine wpAny_holding (wpAny_bind ?_); unfold binaryOp1
  refine wpAny_bind (La.at (wpAny_bind (Lb.at (wpAny_bind (Lc.at ?_))))); simp only [apart, Bool.false_eq_true, if_false]
  cases other
  all_goals
    ksp_lk
    refine wpAny_mono one (fun r s' hr' => ?_) fun _ _ e => e
    obtain ⟨v, rfl, hq⟩ := hr'
    ksp_lk
    exact hq
end
end PySem.W
namespace Od
open PySem L2
/-- what the operator asks of the class and of the kind T -/
structure OpT (K : PySem.W.Frag) (C : Addr) (nm : String) (T : String) : Prop where
  rc : ∃ rc, PySem.W.findIn K (.ref C) (PySem.dunderR nm) = some rc ∧ (rc = none ∨ ∃ g : Addr, rc = some (.ref g))
  fo : ∃ fo, PySem.W.findIn K (.type T) (PySem.dunder nm) = some fo
  ro : ∃ ro, PySem.W.findIn K (.type T) (PySem.dunderR nm) = some ro
  sub : PySem.W.subIn K (.type T) (.ref C) = some false
section
variable {X : Cx} {M : Addr → Prop} {e : DE} {cs cs1 cs2 : Cs} {pos : Pos} {a b : Expr} {ds : List D} {ns : List Str} {y : D} {cn nm : Str} {k : Nat} {x : Xc}
/-- a op b, b of another kind, raises -/
theorem x_binT {op : Operator} {T : String} (F : Du X.prog X.w X.K X.mg X.base cn nm k [.obj cn ns ds, y] (.err x)) (hsf : ∀ C, X.mg cn = some (.ref C) → PySem.W.selfFirst X.K C = true) (hT : tyN y = some T) (hop : ∀ C, X.mg cn = some (.ref C) → OpT X.K C op.info.2 T) (hr : Room k X.A) (ha : EE X M e cs a (.obj cn ns ds) cs1) (hb : EE X M e cs1 b y cs2) (hi : PySem.dunder op.info.2 = nm := by rfl) : EX X M e cs (.BinOp a op b pos) x cs2 where
  dm := hb.dm.trans ha.dm
  k := fun σ H W Q tk S k pins s I => by
    subst hi
    obtain ⟨C, f, hm, hf, hfn, F⟩ := F.ex
    obtain ⟨⟨rc, o1, o2⟩, ⟨fo, o3⟩, ⟨ro, o4⟩, o5⟩ := hop C hm
    refine wpAny_BinOp (binT (ta := wE X a) (tb := wE X b) (R := fun v u H2 => Sit X.K X.mg M σ H2 e cs2 ∧ Ext (dom cs) H H2 ∧ R X.K X.mg M H2 v (.obj cn ns ds) ∧ R X.K X.mg M H2 u y) pe_w pe_w I (ha.k σ H _ S fun v H1 S1 x1 r1 => hb.k σ H1 _ S1 fun u H2 S2 x2 r2 => ⟨S2, x1.trans (by rw [← ha.dm]; exact x2), S1.r x2 r1, r2⟩) fun v u s2 vx vy H2 I2 rx ry q => ?_)
    obtain ⟨S2, x2, r1, r2⟩ := q
    have r1' := r1
    obtain ⟨ad, C', dx, xs, rfl, _, hm', ho, hl, rs⟩ := r_obj r1
    rw [hm] at hm'; cases hm'
    cases (show v = Value.ref ad from rx)
    obtain ⟨mA, O, _, _, _, _⟩ := ins_get I2.hok ho
    obtain ⟨od, J, _⟩ := O.look
    obtain ⟨P, kx, kp, _⟩ := kit_of I2 ry (tyx_of hT r2)
    obtain ⟨m, hF⟩ := I2.fr
    refine PySem.W.odBinT hF I2.ok.mod.kin J (kx.ty _ _ I2.kIn kp) (hsf C hm) hf hfn o1 o2 o3 o4 o5 ?_
    have q2 : outSp X.K X.mg [.obj cn ns ds, y] [] (.err x) [] [.ref ad, vy] H2 (fun _ _ => False) (WE W σ) := err_use S2 (.cons r1' (.cons r2 .nil)) sw0 fun cls d H' S3 x3 r3 => k cls d H' S3 (x2.trans (by rw [← ha.dm, ← hb.dm]; exact x3)) r3
    refine wpAny_mono (wpAny_call (run_fnRS (us := [.ref ad, u]) (vs := [.ref ad, vy]) F hr (passAt tk σ) I2 (.cons rfl (.cons ry .nil)) q2)) (fun w s' z => ?_) fun _ _ x => x
    obtain ⟨z', H', I', rz, qz⟩ := z
    exact qz.elim
end
end Od

set_option Elab.async false
set_option linter.all false
set_option maxRecDepth 100000
set_option maxHeartbeats 4000000
/-! Od21: first, *rest = t. -/
namespace PySem.W
open PySem PySem.Spec PySem.Calls PyProof.Rows
section
variable {prog : Program} {w : World} {A : Around} {E : Value → Shared → Prop} {s : Shared}
theorem od_head {l : Addr} {items : Array Value} {u0 : Value} {more : List Value} {Q : List Value → Shared → Prop} (hl : IsTup s.heap l items) (hh : A.handled = none) (e0 : items.toList = u0 :: more) (hz : items.size ≤ 16384)
    (h : ∀ (h' : Heap) (tk : Nat), (∀ b o, s.heap.get? b = some o → h'.get? b = some o) → Q [u0, .ref h'.objs.size] { s with heap := h'.push { cls := .type "list", data := .seq more.toArray }, toks := tk }) : wpAny (model prog w) A (unpackItems (.ref l) 2 (some 1)) Q E s := by
  obtain ⟨ot, hot, hct⟩ := id hl
  have lt : l < s.heap.objs.size := Heap.lt_size hot
  have sz : items.size = more.length + 1 := by rw [← Array.length_toList, e0]; rfl
  have big : items.size ≤ sizeLine := by rw [sizeLine_eq]; omega
  unfold unpackItems
  refine wpAny_bind (show wpAny _ _ (notIterableAtAll (.ref l)) _ _ _ from ?_); unfold notIterableAtAll
  refine wpAny_bind (wpAny_specialOf hl.typeIs slot_tuple_iter.lookup (wpAny_pure ?_)); simp only [Bool.false_eq_true, if_false]
  refine wpAny_bind (wpAny_holding (iter_tuple hl (wpAny_bind (wpAny_holding (draw_tuple (Nat.ne_of_lt lt) 1 0 _ _ ⟨_, Heap.get?_push_size _ rfl, rfl, rfl⟩ (hl.push _) (by omega) fun g1 it1 sb1 => ?_)))))
  have tup1 : IsTup g1 l items := (hl.push _).extBut sb1.extBut (Nat.ne_of_lt lt)
  rw [Nat.zero_add] at it1
  obtain ⟨oi, hoi, _⟩ := id it1
  obtain ⟨ol, hol, _⟩ := id tup1
  rw [List.drop_zero, e0]
  show wpAny _ _ (if (List.take 1 (u0 :: more)).length < 1 then _ else _) _ _ _
  rw [if_neg (show ¬ ((List.take 1 (u0 :: more)).length < 1) by simp)]
  refine wpAny_bind (wpAny_holding (kun_collect (s := { s with heap := g1 }) (T := "tuple_iterator") (.inr (.inr (.inr rfl))) (Walks.tuple (A := A.in1) hh s.heap.objs.size l (Nat.ne_of_lt lt) items) (fun j u st => st.1.typeIs) (k := 1) (by omega) ⟨it1, tup1⟩ (Heap.lt_size hoi) (Heap.lt_size hol) (fun g2 tk hk => ?_) big))
  rw [e0]
  have hd : List.drop 1 (u0 :: more) = more := rfl
  rw [hd]
  show wpAny _ _ (if more.length < 0 then _ else _) _ _ _
  rw [if_neg (Nat.not_lt_zero _)]
  have kp : ∀ b o, s.heap.get? b = some o → g2.get? b = some o := fun b o e => by
    have nb : b ≠ s.heap.objs.size := Nat.ne_of_lt (Heap.lt_size e)
    exact hk b o nb (sb1.extBut b o nb (Heap.get?_push_of_some _ e))
  refine wpAny_bind (wpAny_newList (wpAny_pure ?_) (by simp; omega))
  have z := h g2 tk kp
  simpa using z
end
end PySem.W
namespace Od
open PySem L2
section
variable {X : Cx} {M : Addr → Prop} {e : DE} {cs cs1 : Cs} {pos : Pos} {ex : Expr} {ds : List D} {d : D} {n m : Str} {fr : Frs} {rest : List Stmt} {D0 : Ends}
theorem pg_head {px py ps pt : Pos} {kt : Nat} {i j : Nat} (hc : X.calm = true) (hn : PG X (.Name n px) (gName i)) (hm : PG X (.Name m py) (gName j))
    (h1 : (assignEach [.Name n px, .Starred (.Name m py) ps] X.env).length = 2) (h2 : (assignEach [.Name n px, .Starred (.Name m py) ps] X.env).findIdx? (·.1) = some 1) (h3 : (assignEach [.Name n px, .Starred (.Name m py) ps] X.env).map (·.2) = [assign (.Name n px) X.env, assign (.Name m py) X.env]) :
    PG X (.Tuple [.Name n px, .Starred (.Name m py) ps] kt pt) (fun v σ H Q => ∃ a x xs, v = .ref a ∧ SqT X.K H a (x :: xs) ∧ xs.length ≤ 10000 ∧ ∀ p, H p = none → gName i x σ (upd H p (.lst xs)) fun σ1 H1 => gName j (.ref p) σ1 H1 Q) := by
  refine ⟨fun pins s σ H v u Q I r ⟨a, x, xs, ev, hq, hl, w⟩ => ?_⟩
  subst ev
  cases (show u = Value.ref a from r)
  obtain ⟨its, rv, ht, hz⟩ := I.tuple hq
  cases rv with
  | @cons _ u0 _ us rx rxs =>
    have hlen := rxs.length
    rw [PyProof.Rows.assign_Tuple]
    refine wpAny_bind (wpAny_standAt ?_)
    unfold unpack
    rw [h1, h2]
    refine wpAny_bind (wpAny_holding (PySem.W.od_head ht (I.ok.hd hc) rfl (by simp; omega) fun h' tk kp => ?_))
    have I1 : Inv X pins σ H { s with heap := h', toks := tk } := I.kept kp
    have nw : H h'.objs.size = none := I1.hok.fresh (Nat.le_refl _)
    have I2 : Inv X pins σ (upd H h'.objs.size (.lst xs)) { s with heap := h'.push { cls := .type "list", data := .seq us.toArray }, toks := tk } :=
      I1.laid (t' := tk) (fun b o e => Heap.get?_push_of_some _ e) (Nat.le_refl _) (show ObjOk X.prog X.w _ _ _ (.lst xs) from ⟨Nat.le_trans hl (by decide), us, 0, rxs, Heap.get?_push_size _ rfl⟩)
    rw [h3]
    unfold assignInOrder
    refine wpAny_bind (wpAny_holding (wpAny_mono (hn.run pins _ σ _ x u0 _ I2 rx (w _ nw)) (fun _ s2 ⟨σ2, H2, I3, q2⟩ => ?_) fun _ _ z => z))
    unfold assignInOrder
    refine wpAny_bind (wpAny_holding (wpAny_mono (hm.run pins s2 σ2 H2 (.ref h'.objs.size) (.ref h'.objs.size) _ I3 rfl q2) (fun _ s3 q3 => ?_) fun _ _ z => z))
    unfold assignInOrder
    exact wpAny_pure q3
/-- n, *m = t -/
theorem at_head {px py ps pt : Pos} {kt : Nat} (i j : Nat) (ha : EE X M e cs ex (.tup (d :: ds)) cs1) (k : At X M ((e.set i (some d)).set j (some (.lst ds))) cs1 fr (wSs X rest D0)) (hl : ds.length ≤ 10000) (hN : X.N.Nodup) (hi : X.N[i]? = some n := by rfl) (hj : X.N[j]? = some m := by rfl)
    (hx : Loc X.env.scope n := by first | exact .inl rfl | exact .inr rfl) (hx2 : Loc X.env.scope m := by first | exact .inl rfl | exact .inr rfl) (hf : X.fn n = true ∨ X.env.scope.names.lookup n = some .local := by first | exact .inl rfl | exact .inr rfl) (hf2 : X.fn m = true ∨ X.env.scope.names.lookup m = some .local := by first | exact .inl rfl | exact .inr rfl) (hc : X.calm = true := by rfl)
    (hs : swapsWithSole [.Tuple [.Name n px, .Starred (.Name m py) ps] kt pt] ex pos.line X.env = pure false := by rfl) (hw : swappedStores [.Tuple [.Name n px, .Starred (.Name m py) ps] kt pt] ex X.env = pure none := by rfl)
    (h0 : (assignEach [.Tuple [.Name n px, .Starred (.Name m py) ps] kt pt] X.env).map (·.2) = [assign (.Tuple [.Name n px, .Starred (.Name m py) ps] kt pt) X.env] := by rfl)
    (h1 : (assignEach [.Name n px, .Starred (.Name m py) ps] X.env).length = 2 := by rfl) (h2 : (assignEach [.Name n px, .Starred (.Name m py) ps] X.env).findIdx? (·.1) = some 1 := by rfl) (h3 : (assignEach [.Name n px, .Starred (.Name m py) ps] X.env).map (·.2) = [assign (.Name n px) X.env, assign (.Name m py) X.env] := by rfl) :
    At X M e cs fr (wSs X (.Assign [.Tuple [.Name n px, .Starred (.Name m py) ps] kt pt] ex pos :: rest) D0) := fun σ H S x l =>
  wss_of (pss_cons (ps_asg pe_w (pg_head hc (pg_name hN hi hx hf) (pg_name hN hj hx2 hf2) h1 h2 h3) hs hw h0) pss_w) (ha.k σ H _ S fun v H1 S1 x1 r1 => by
    obtain ⟨ad, xs, rfl, hq, rr⟩ := r_tup r1
    match xs, rr with
    | u :: us, rr =>
      have hlen := rr.length
      unfold Rs at rr
      obtain ⟨ru, rr⟩ := rr
      refine ⟨ad, u, us, rfl, hq, by rw [rr.length]; exact hl, fun p hp => ?_⟩
      have xn : Ext [] H1 (upd H1 p (.lst us)) := Ext.new hp
      have S2 := S1.ex xn
      exact k _ _ ((S2.set i (S1.r (xn.mono (by simp)) ru)).set j (r_newl S1.mt hp rr)) (ext_on (ext_on x l x1) (lo_of l ha.dm) (xn.mono (by simp))) (lo_of l ha.dm))
end
end Od

set_option Elab.async false
set_option linter.all false
set_option maxRecDepth 100000
set_option maxHeartbeats 4000000
/-! Od22: an own instance compared with a value of another kind. -/
namespace Od
open PySem L2
section
variable {X : Cx} {y : D} {ds : List D} {k : Nat}
theorem cd_ownT {op : CmpOp} {cn : Str} {ns : List Str} {b0 : Bool} {nm : Str} {T : String} (F : Du X.prog X.w X.K X.mg X.base cn nm k [.obj cn ns ds, y] (.ok (.bl b0))) (hn : ∀ C, X.mg cn = some (.ref C) → PySem.W.notFirst X.K C (.type T) = true) (hT : tyN y = some T) (hr : Room k X.A)
    (hop : ∀ a b, compareOp op a b = richCompare op a b := by intro _ _; rfl) (hi : (cmpInfo op).2.1 = nm := by rfl) : CmpD X op (.obj cn ns ds) y b0 := by
  subst hi
  obtain ⟨C, f, hm, hf, hfn, F⟩ := F.ex
  have ur : OpR X (compareOp op) (fun x z H Q => ∃ a dx fs, x = .ref a ∧ H a = some (.ins C dx fs) ∧ TyX X.K H z (.type T) ∧ outSp X.K X.mg [.obj cn ns ds, y] [] (.ok (.bl b0)) [] [.ref a, z] H Q E0) := by
    intro pins s σ H x z v u Q I rx rz h
    obtain ⟨a, dx, fs, rfl, ea, ty, q⟩ := h
    cases (show v = Value.ref a from rx)
    obtain ⟨mA, O, _, _, _, _⟩ := ins_get I.hok ea
    obtain ⟨od, J, _⟩ := O.look
    obtain ⟨P, kx, kp, _⟩ := kit_of I rz ty
    obtain ⟨m, hF⟩ := I.fr
    rw [hop]
    refine PySem.W.cmp_K (op := op) (tb := .type T) hr.units0 hF I.ok.mod.kin J (kx.ty _ _ I.kIn kp) (hn C hm) hf hfn ?_
    refine wpAny_mono (wpAny_call (run_fnR (us := [.ref a, u]) (vs := [.ref a, z]) F hr passL I (.cons rfl (.cons rz .nil)) q)) (fun w s' zz => ?_) fun _ _ x => x
    obtain ⟨z', H', I', rz', qz⟩ := zz
    exact SlX.cmpback rz' ⟨z', H', I', rz', qz⟩
  refine ⟨_, ur, fun M H v u Q mt hv hu k => ?_⟩
  have hv0 := hv
  obtain ⟨ad, C', dx, xs, rfl, _, hm', ho, hl, rs⟩ := r_obj hv
  rw [hm] at hm'; cases hm'
  exact ⟨ad, dx, _, rfl, ho, tyx_of hT hu, M, mt, .cons hv0 (.cons hu .nil), by simp, by simp, fun v H' m2 xt _ rv => k v H' xt rv⟩
end
end Od

set_option Elab.async false
set_option linter.all false
set_option maxRecDepth 100000
set_option maxHeartbeats 4000000
/-! Tr1: is_number, check_nodes at right rows, Tree made, nodes, letters_at, children, node_text, text. -/
namespace Od
open PySem L2 TL PySem.Spec
abbrev sIsNum : Stmt := top 17
abbrev sChkNodes : Stmt := top 19
abbrev sNodeText : Stmt := top 20
abbrev sTree : Stmt := top 18
abbrev sTInit : Stmt := inClass sTree 0
abbrev sTNodes : Stmt := inClass sTree 4
abbrev sTChk : Stmt := inClass sTree 9
abbrev sTAt : Stmt := inClass sTree 10
abbrev sTKids : Stmt := inClass sTree 11
abbrev sTText : Stmt := inClass sTree 17
local macro_rules
  | `(tactic| walk_at "bd") => `(tactic| first | exact bd_add | exact bd_sub | exact bd_mulR (by decide) | exact bd_mulL (by decide) | exact bd_mod (by decide) | exact bd_div (by decide))
local macro_rules
  | `(tactic| walk_at "le") => `(tactic| repeat (first | exact LeD.nil | apply LeD.drop | apply LeD.same))
def optD : Option Int → D
  | none => .non
  | some q => .int q
def Row.d (r : Row) : D := .tup [.str (strOf r.1), optD r.2]
def tnames : List Str := ["own_nodes"]
def rowsD (rows : List Row) : D := .lst (rows.map Row.d)
def treeO (rows : List Row) : D := .obj "Tree" tnames [rowsD rows]
structure TrT (w : World) (K : PySem.W.Frag) (mg : Str → Option Value) (C : Addr) : Prop where
  hm : mg "Tree" = some (.ref C)
  cl : Cls K C
  ci : ClsI K C
  kit : PySem.W.kitOne K (.ref C) (.ref C) = some true
  no : NoAttr K C "own_nodes"
def isNumV : D → Bool
  | .int _ => true
  | _ => false
structure TrI where
  rows : List Row
  at_ : Nat
structure TrI.Pre (i : TrI) : Prop where
  ok : okRows [] i.rows = true
  len : i.rows.length ≤ 1000
  lt : i.at_ < i.rows.length
section
variable (P : Program) (w : World) (K : PySem.W.Frag) (mg : Str → Option Value) (base : Heap)
abbrev IsNumD (k : Nat) : Prop := Dfn P w K mg base "is_number" k (puSp K mg ValD (fun d => [d]) (fun d => .bl (isNumV d)))
abbrev ChkNodesD (k : Nat) : Prop := Dfn P w K mg base "check_nodes" k (puSp K mg (fun rows : List Row => okRows [] rows = true ∧ rows ≠ [] ∧ rows.length ≤ 1000) (fun rows => [.tup (rows.map Row.d)]) (fun _ => .non))
abbrev MkT (k : Nat) : Prop := Mkr P w K mg base "Tree" k (mkSp K mg "Tree" (fun rows : List Row => okRows [] rows = true ∧ rows ≠ [] ∧ rows.length ≤ 1000) (fun rows => [] ++ rows.map Row.d) tnames (fun rows => [rowsD rows]))
abbrev TM0 (n : Str) (res : List Row → D) (k : Nat) : Prop := Mth P w K mg base "Tree" n k (puSp K mg (fun rows : List Row => okRows [] rows = true ∧ rows ≠ [] ∧ rows.length ≤ 1000) (fun rows => [treeO rows]) res)
abbrev TM1 (n : Str) (res : TrI → D) (k : Nat) : Prop := Mth P w K mg base "Tree" n k (puSp K mg TrI.Pre (fun i => [treeO i.rows, .int (i.at_ : Int)]) res)
abbrev NodeTextD (f k : Nat) : Prop := Dfn P w K mg base "node_text" k (puSp K mg (fun i : TrI => i.Pre ∧ (fo i.rows [i.at_]).dep ≤ f) (fun i => [treeO i.rows, .int (i.at_ : Int)]) (fun i => .str (strOf (fo i.rows [i.at_]).txt)))
variable {P w K mg base}
theorem scIsNum : FnScope ["value"] ["value"] (defScope sIsNum) := ⟨rfl, rfl, rfl, by decide +kernel, rfl, by decide +kernel, by decide +kernel⟩
theorem scChkNodes : FnScope ["nodes", "at", "node", "sign"] ["nodes"] (defScope sChkNodes) := ⟨rfl, rfl, rfl, by decide +kernel, rfl, by decide +kernel, by decide +kernel⟩
theorem scTInit : FnScope ["self", "nodes", "node"] ((["self"] : List Str) ++ (["nodes"] : List Str)) (defScope sTInit) := ⟨rfl, rfl, rfl, by decide +kernel, rfl, by decide +kernel, by decide +kernel⟩
theorem scTNodes : FnScope ["self"] ["self"] (defScope sTNodes) := ⟨rfl, rfl, rfl, by decide +kernel, rfl, by decide +kernel, by decide +kernel⟩
theorem scTChk : FnScope ["self", "node"] ["self", "node"] (defScope sTChk) := ⟨rfl, rfl, rfl, by decide +kernel, rfl, by decide +kernel, by decide +kernel⟩
theorem scTAt : FnScope ["self", "node"] ["self", "node"] (defScope sTAt) := ⟨rfl, rfl, rfl, by decide +kernel, rfl, by decide +kernel, by decide +kernel⟩
theorem scTKids : FnScope ["self", "node", "at"] ["self", "node"] (defScope sTKids) := ⟨rfl, rfl, rfl, by decide +kernel, rfl, by decide +kernel, by decide +kernel⟩
theorem scTText : FnScope ["self"] ["self"] (defScope sTText) := ⟨rfl, rfl, rfl, by decide +kernel, rfl, by decide +kernel, by decide +kernel⟩
theorem scNodeText : FnScope ["tree", "node", "inner", "child", "signs"] ["tree", "node"] (defScope sNodeText) := ⟨rfl, rfl, rfl, by decide +kernel, rfl, by decide +kernel, by decide +kernel⟩
theorem ok_isNum {f : Addr} {fd : FuncData} (F : Fun K "is_number" "is_number" sIsNum f fd) (hm : mg "is_number" = some (.ref f)) (hb : Binds K fd ["value"] []) (B : Blt mg) : IsNumD P w K mg base 1 := by
  refine dfn_of F hm scIsNum hb (fun i => rfl) fun cdv A outer s H0 E d M Q hp hr kq => ?_
  have no : ∀ (t : String), tyN d = some t → kitB t "int" = some false → isNumV d = false → At (cxOf (L2.CX P w) P w K mg base ["value"] "is_number" (defScope sIsNum) f cdv A outer s H0 E) M [some d] [] [(dom [], H0)] (wSs (cxOf (L2.CX P w) P w K mg base ["value"] "is_number" (defScope sIsNum) f cdv A outer s H0 E) (defBody sIsNum) { nx := fun _ H' => Q .non H', rt := Q }) := fun t h1 h2 h3 =>
    at_end (e_and (p0 := false) (q0 := false) (e_blt (kd_isi (n := "int") h1 h2) (a_cons (e_name 0 rfl) (a_cons (e_gty (t := "int") B.int) a_nil)) B.isinstance) fun h => by cases h) (by rw [h3]; rfl) (.head _) kq
  cases d with
  | int i => exact at_end (e_and (p0 := true) (q0 := true) (e_blt (kd_isi (t := "int") (n := "int") (b := true) rfl (by decide +kernel)) (a_cons (e_name 0 rfl) (a_cons (e_gty (t := "int") B.int) a_nil)) B.isinstance) fun _ => e_one (e_not (p0 := false) (e_blt (kd_isi (t := "int") (n := "bool") (b := false) rfl (by decide +kernel)) (a_cons (e_name 0 rfl) (a_cons (e_gty (t := "bool") B.bool) a_nil)) B.isinstance))) rfl (.head _) kq
  | bl b => exact at_end (e_and (p0 := true) (q0 := false) (e_blt (kd_isi (t := "bool") (n := "int") (b := true) rfl (by decide +kernel)) (a_cons (e_name 0 rfl) (a_cons (e_gty (t := "int") B.int) a_nil)) B.isinstance) fun _ => e_one (e_not (p0 := true) (e_blt (kd_isi (t := "bool") (n := "bool") (b := true) rfl (by decide +kernel)) (a_cons (e_name 0 rfl) (a_cons (e_gty (t := "bool") B.bool) a_nil)) B.isinstance))) rfl (.head _) kq
  | str t => exact no _ rfl (by decide +kernel) rfl
  | non => exact no _ rfl (by decide +kernel) rfl
  | lst ds => exact no _ rfl (by decide +kernel) rfl
  | tup ds => exact no _ rfl (by decide +kernel) rfl
  | _ => exact hp.elim
theorem lets_ValD {l : List Nat} (h : letsB l = true) : ValD (.str (strOf l)) := by
  show l.toArray.size ≤ 1000
  have := lets_len h
  simp; omega
theorem rows_get {rows : List Row} {k : Nat} (h : k < rows.length) : rows[k]? = some (rowAt rows k) := by
  unfold rowAt
  rw [List.getElem?_eq_getElem h]; rfl
theorem ups0_get {n i : Nat} {d : D} (h : ((ups 0 n).map D.int)[i]? = some d) : i < n ∧ d = .int (i : Int) := by
  unfold ups at h
  rw [List.map_map, List.getElem?_map] at h
  cases e : (List.range n)[i]? with
  | none => rw [e] at h; cases h
  | some k =>
    obtain ⟨h1, h2⟩ := List.getElem?_eq_some_iff.mp e
    rw [List.length_range] at h1
    rw [List.getElem_range] at h2
    rw [e] at h
    subst h2
    exact ⟨h1, by rw [← Option.some.inj h]; simp⟩
theorem ixN_k {n k : Nat} (h : k < n) : ixN n (k : Int) = some k := ixN_nat h
theorem ok_chkNodes {f : Addr} {fd : FuncData} (F : Fun K "check_nodes" "check_nodes" sChkNodes f fd) (hm : mg "check_nodes" = some (.ref f)) (hb : Binds K fd ["nodes"] []) (B : Blt mg) (L : IsLetsD P w K mg base 4) (N : IsNumD P w K mg base 1) : ChkNodesD P w K mg base 5 := by
  refine dfn_of F hm scChkNodes hb (fun i => rfl) fun cdv A outer s H0 E rows M Q hp hr kq => ?_
  obtain ⟨hok, hne, hlen⟩ := hp
  have hpos : 0 < rows.length := List.length_pos_iff.mpr hne
  refine at_if (b0 := false) (cs1 := []) (ET.eq (t_cmp (e_blt kd_lenT (a_cons (e_name 0 rfl) a_nil) B.len) e_int cd_eqI) (by rw [List.length_map]; simp; omega)) (fun h => by cases h) (fun _ => at_nil ?_)
  refine at_for (α := fun _ => Unit) (ds := (ups 0 rows.length).map D.int) (fun _ _ => True) (fun _ _ => [some (.tup (rows.map Row.d)), none, none, none]) (fun _ _ => [])
    (EI.eq (ei_rng1 (e_blt kd_lenT (a_cons (e_name 0 rfl) a_nil) B.len) B.range (by rw [List.length_map]; omega)) (by rw [List.length_map]; simp)) (ltg_name 1 scChkNodes.nd) (fun _ _ => trivial) () trivial rfl rfl (fun _ _ _ => rfl) (fun i d u H1 hd _ => ?_) fun u _ => ?_
  · obtain ⟨hi, rfl⟩ := ups0_get hd
    have hr0 := rows_get hi
    have hoi := okRows_get rows [] hok hr0
    rw [List.nil_append] at hoi
    have hlet := okAt_lets hoi
    have hgd : (rows.map Row.d)[i]? = some (rowAt rows i).d := by rw [List.getElem?_map, hr0]; rfl
    have hil : ∀ l : List Nat, l.length ≤ 1000 → l.length ≤ 100000 := fun l h => by omega
    refine at_set 2 (d := (rowAt rows i).d) (e_ix (e_name 0 rfl) (e_name 1 rfl) (xd_tup (j := i) (by rw [List.length_map]; exact ixN_nat hi) hgd)) ?_ scChkNodes.nd
    have hs1 : ∀ {pos : Pos}, (rowAt rows i).d = .tup [.str (strOf (rowAt rows i).1), optD (rowAt rows i).2] := rfl
    refine at_if (b0 := false) (cs1 := []) (ET.eq (t_ew (t_or (p0 := false) (q0 := false) (t_not (k0 := true) (t_val (e_blt (kd_isiT (t := "tuple") (n1 := "tuple") (n2 := "list") (b1 := true) (b2 := false) rfl (by decide +kernel) (by decide +kernel)) (a_cons (e_name 2 rfl) (a_cons (e_tup (a_cons (e_gty (t := "tuple") B.tuple) (a_cons (e_gty (t := "list") B.list) a_nil))) a_nil)) B.isinstance))) fun _ => t_or (p0 := false) (q0 := false) (ET.eq (t_cmp (e_blt kd_lenT (a_cons (e_name 2 rfl) a_nil) B.len) e_int cd_neI) rfl) fun _ => t_or1 (t_not (k0 := true) (t_val (EE.eq (e_call L (hr.mono (by decide)) (a_cons (e_ix (e_name 2 rfl) e_int (xd_tup (j := 0) rfl rfl)) a_nil) (.str (strOf (rowAt rows i).1)) (lets_ValD hlet) rfl) (by exact congrArg D.bl hlet)))))) rfl) (fun h => by cases h) (fun _ => at_nil ?_)
    generalize hrow : rowAt rows i = r at hr0 hoi hlet hgd
    obtain ⟨l, p⟩ := r
    dsimp only at hlet
    have e1 : ∀ {cs : Cs} {pos p1 : Pos} {j : Nat}, EE (cxOf (L2.CX P w) P w K mg base ["nodes", "at", "node", "sign"] "check_nodes" (defScope sChkNodes) f cdv A outer s H0 E) M [some (.tup (rows.map Row.d)), some (.int (i : Int)), some (Row.d (l, p)), none] cs (.Subscript (.Name "node" p1) (.Constant (.int 1) j pos) pos) (optD p) cs := e_ix (e_name 2 rfl) e_int (xd_tup (j := 1) rfl rfl)
    refine at_if (b0 := false) (cs1 := []) (ET.eq (t_ew (t_and (p0 := decide ((i : Int) = 0)) (q0 := false) (t_cmp (e_name 1 rfl) e_int cd_eqI) fun h => t_and1 (ET.eq (t_notN (e_ix (e_name 2 rfl) e_int (xd_tup (j := 1) rfl rfl))) ?_))) (by simp)) (fun h => by cases h) (fun _ => at_nil ?_)
    · have h0 : i = 0 := by simpa using h
      subst h0
      cases p with
      | none => rfl
      | some q =>
        obtain ⟨_, h2, h3, _⟩ := okAt_some hoi
        simp at h3; omega
    have hpos : 0 < i → ∃ q : Nat, p = some (q : Int) ∧ q < i ∧ ∀ c ∈ (rowAt rows q).1, c ∈ l := fun h => by
      cases p with
      | none =>
        have := (okAt_none hoi).2
        have h2 := congrArg List.length this
        rw [List.length_take] at h2
        have h3 : min i rows.length = 0 := h2
        omega
      | some q =>
        obtain ⟨_, h2, h3, h4⟩ := okAt_some hoi
        rw [List.length_take] at h3
        refine ⟨q.toNat, by rw [Int.toNat_of_nonneg h2], by omega, fun c hc => h4 c ?_⟩
        rw [rowAt_take (by omega)]; exact hc
    refine at_if (b0 := false) (cs1 := []) (ET.eq (t_ew (t_and (p0 := decide ((i : Int) > 0)) (q0 := false) (t_cmp (e_name 1 rfl) e_int cd_gt) fun h => ?_)) (by simp)) (fun h => by cases h) (fun _ => at_nil ?_)
    · obtain ⟨q, rfl, hq, hsub⟩ := hpos (by simpa using h)
      exact t_and1 (ET.eq (t_ew (t_or (p0 := false) (q0 := false) (t_not (k0 := true) (t_val (EE.eq (e_call N (hr.mono (by decide)) (a_cons (e_ix (e_name 2 rfl) e_int (xd_tup (j := 1) rfl rfl)) a_nil) (.int (q : Int)) trivial rfl) rfl))) fun _ => t_or1 (ET.eq (t_not (t_chain e_int (e_ix (e_name 2 rfl) e_int (xd_tup (j := 1) rfl rfl)) (e_name 1 rfl) cd_le cd_lt)) (by simp; omega)))) rfl)
    refine at_if (b0 := false) (cs1 := []) (ET.eq (t_ew (t_and (p0 := decide ((i : Int) > 0)) (q0 := false) (t_cmp (e_name 1 rfl) e_int cd_gt) fun h => ?_)) (by simp)) (fun h => by cases h) (fun _ => at_nil ?_)
    · obtain ⟨q, rfl, hq, hsub⟩ := hpos (by simpa using h)
      have hq2 : q < rows.length := by omega
      have hgq : (rows.map Row.d)[q]? = some (rowAt rows q).d := by rw [List.getElem?_map, rows_get hq2]; rfl
      have hql : (rowAt rows q).1.length ≤ 26 := lets_len (ok_lets hok)
      refine t_and1 (t_not (k0 := true) (t_val (EE.eq (e_blt (kd_all (bs := (rowAt rows q).1.map fun c => decide (c ∈ l))) (a_cons (EE.eq (e_lcM [("sign", 3)] (rowAt rows q).1 (fun c => D.str (sg c)) (fun c => D.bl (decide (c ∈ l)))
        (EI.eq (ei_str (e_ix (e_ix (e_name 0 rfl) (e_ix (e_name 2 rfl) e_int (xd_tup (j := 1) rfl rfl)) (xd_tup (j := q) (by rw [List.length_map]; exact ixN_nat hq2) hgq)) e_int (xd_tup (j := 0) rfl rfl))) (by rw [signs_tl]; simp; rfl)) (ctg_name 3 scChkNodes.nd (by decide) rfl) (fun _ _ => trivial) (by omega)
        (fun c hc M' hM s2 H2 C2 cl2 fp2 => EE.eq (e_cmp (e_name 3 rfl) (e_ix (e_name 2 rfl) e_int (xd_tup (j := 0) rfl rfl)) cd_inC) rfl) (blkOk_by rfl) scChkNodes.nd) (by simp)) a_nil) B.all) (by
          show D.bl (((rowAt rows q).1.map fun c => decide (c ∈ l)).all id) = D.bl true
          rw [show (((rowAt rows q).1.map fun c => decide (c ∈ l)).all id) = true by simpa using hsub]))))
    exact at_nil (at_go (at_inv (e := [some (.tup (rows.map Row.d)), none, none, none]) () trivial rfl rfl) (by walk_at "le") rfl)
  · exact at_endV (.head _) kq fun _ _ h => h
theorem ok_tinit {f C : Addr} {fd : FuncData} (F : Fun K "__init__" "Tree.__init__" sTInit f fd) (hC : ∃ C, mg "Tree" = some (.ref C) ∧ Mk K C f) (T : TrT w K mg C) (CN : ChkNodesD P w K mg base 5) : MkT P w K mg base 6 := by
  refine mkr_star (ps := ["self"]) (pv := "nodes") (heads := fun _ : List Row => []) (parts := fun rows : List Row => rows.map Row.d) hC F scTInit (fun _ _ _ _ _ _ us rest hl => match us, rest, hl with
    | [_], [], _ => rfl
    | [_], _ :: _, _ => rfl) (fun i => rfl) (fun i hp => by rw [List.length_map]; have := hp.2.2; omega) fun cdv A outer s H0 E rows M ad Q hp hr kq nm => ?_
  refine at_expr (cs1 := [(ad, .obj "Tree" [] [])]) (e_call CN (hr.mono (by decide)) (a_cons (e_name 1 rfl) a_nil) rows hp rfl) ?_
  refine at_fldN (d := rowsD rows) (e_lcM [("node", 2)] rows Row.d Row.d (ei_tup (e_name 1 rfl)) (ctg_name 2 scTInit.nd (by decide) rfl) (fun _ _ => trivial) (by have := hp.2.2; omega)
    (fun r hr' M' hM s2 H2 C2 cl2 fp2 => e_tup (a_cons (e_ix (e_name 2 rfl) e_int (xd_tup (j := 0) rfl rfl)) (a_cons (e_ix (e_name 2 rfl) e_int (xd_tup (j := 1) rfl rfl)) a_nil))) (blkOk_by rfl) scTInit.nd) (e_name 0 rfl) T.hm T.cl T.no (by decide) (by decide +kernel) .here ?_
  exact at_endI (.head _) rfl nm kq fun _ _ h => h
section
variable {X : Cx} {M : Addr → Prop} {e : DE} {cs cs1 : Cs} {pos : Pos} {a : Expr} {rows : List Row} {C : Addr}
/-- self.own_nodes -/
theorem e_rows (T : TrT X.w X.K X.mg C) (ha : EE X M e cs a (treeO rows) cs1) (hb : attributeBase a "own_nodes" X.env (eval a X.env) = eval a X.env := by rfl) : EE X M e cs (.Attribute a "own_nodes" pos) (rowsD rows) cs1 := e_fld (ha) T.hm T.cl T.no 0 (by decide +kernel) rfl hb
end
theorem ok_tnodes {f C : Addr} {fd : FuncData} (F : Fun K "nodes" "Tree.nodes" sTNodes f fd) (hC : ∃ C, mg "Tree" = some (.ref C) ∧ Cls K C ∧ Meth K C "nodes" f) (hb : Binds K fd ["self"] []) (B : Blt mg) (T : TrT w K mg C) : TM0 P w K mg base "nodes" rowsD 1 := by
  refine mth_of hC F scTNodes hb (fun i => rfl) fun cdv A outer s H0 E rows M Q hp hr kq => ?_
  exact at_end (e_bty kd_listL (a_cons (e_rows T (e_name 0 rfl)) a_nil) B.list) rfl (.head _) kq
theorem ok_tchk {f C : Addr} {fd : FuncData} (F : Fun K "check_node" "Tree.check_node" sTChk f fd) (hC : ∃ C, mg "Tree" = some (.ref C) ∧ Cls K C ∧ Meth K C "check_node" f) (hb : Binds K fd ["self", "node"] []) (B : Blt mg) (T : TrT w K mg C) (N : IsNumD P w K mg base 1) : TM1 P w K mg base "check_node" (fun _ => .non) 2 := by
  refine mth_of hC F scTChk hb (fun i => rfl) fun cdv A outer s H0 E i M Q hp hr kq => ?_
  obtain ⟨rows, k⟩ := i
  obtain ⟨hok, hlen, hlt⟩ := hp
  dsimp only at hok hlen hlt kq
  refine at_if (b0 := false) (cs1 := []) (ET.eq (t_ew (t_or (p0 := false) (q0 := false) (t_not (k0 := true) (t_val (EE.eq (e_call N (hr.mono (by decide)) (a_cons (e_name 1 rfl) a_nil) (.int (k : Int)) trivial rfl) rfl))) fun _ => t_or1 (ET.eq (t_not (t_chain e_int (e_name 1 rfl) (e_blt kd_lenL (a_cons (e_rows T (e_name 0 rfl)) a_nil) B.len) cd_le cd_lt)) (by simp; omega)))) rfl) (fun h => by cases h) (fun _ => at_nil ?_)
  exact at_endV (.head _) kq fun _ _ h => h
theorem ok_tat {f C : Addr} {fd : FuncData} (F : Fun K "letters_at" "Tree.letters_at" sTAt f fd) (hC : ∃ C, mg "Tree" = some (.ref C) ∧ Cls K C ∧ Meth K C "letters_at" f) (hb : Binds K fd ["self", "node"] []) (B : Blt mg) (T : TrT w K mg C) (CH : TM1 P w K mg base "check_node" (fun _ => .non) 2) : TM1 P w K mg base "letters_at" (fun i => .str (strOf (rowAt i.rows i.at_).1)) 3 := by
  refine mth_of hC F scTAt hb (fun i => rfl) fun cdv A outer s H0 E i M Q hp hr kq => ?_
  obtain ⟨rows, k⟩ := i
  have hlt : k < rows.length := hp.lt
  refine at_expr (cs1 := []) (e_meth CH (hr.mono (by decide)) (e_name 0 rfl) (a_cons (e_name 1 rfl) a_nil) (by decide +kernel) ⟨rows, k⟩ hp rfl) ?_
  exact at_end (e_ix (e_ix (e_rows T (e_name 0 rfl)) (e_name 1 rfl) (xd_lst (j := k) (by rw [List.length_map]; exact ixN_nat hlt) (by rw [List.getElem?_map, rows_get hlt]; rfl))) e_int (xd_tup (j := 0) rfl rfl)) rfl (.head _) kq
theorem kids_range (rows : List Row) (j : Nat) : kids rows j = (List.range rows.length).filter fun k => decide ((rowAt rows k).2 = some (j : Int)) := by
  have key : ∀ (a : List Row) (s : Nat), kidsF a s j = (List.range' s a.length).filter fun k => decide ((rowAt a (k - s)).2 = some (j : Int)) := by
    intro a
    induction a with
    | nil => intro s; rfl
    | cons r a ih =>
      intro s
      have hs : (List.range' (s + 1) a.length).filter (fun k => decide ((rowAt a (k - (s + 1))).2 = some (j : Int))) = (List.range' (s + 1) a.length).filter (fun k => decide ((rowAt (r :: a) (k - s)).2 = some (j : Int))) := by
        apply List.filter_congr
        intro k hk
        have h1 := (List.mem_range'_1.mp hk).1
        have h2 : k - s = (k - (s + 1)) + 1 := by omega
        rw [h2]; rfl
      show (if r.2 = some (j : Int) then s :: kidsF a (s + 1) j else kidsF a (s + 1) j) = _
      rw [ih (s + 1), hs, List.length_cons, List.range'_succ, List.filter_cons]
      have h0 : (rowAt (r :: a) (s - s)).2 = r.2 := by rw [Nat.sub_self]; rfl
      rw [h0]
      by_cases h : r.2 = some (j : Int)
      · rw [if_pos h, decide_eq_true h]; simp
      · rw [if_neg h, decide_eq_false h]; simp
  rw [kids, key rows 0, List.range_eq_range']
  simp
theorem cd_optEq {X : Cx} {p : Option Int} {j : Int} (hu : X.A.units + 64 < cLine) : CmpD X .Eq (optD p) (.int j) (decide (p = some j)) := by
  cases p with
  | none => exact (cd_eqD hu (p := .none) (q := .int j) rfl rfl (by decide) (by rfl)).eq (by rfl)
  | some q => exact cd_eqI.eq (by simp)
theorem ok_tkids {f C : Addr} {fd : FuncData} (F : Fun K "children" "Tree.children" sTKids f fd) (hC : ∃ C, mg "Tree" = some (.ref C) ∧ Cls K C ∧ Meth K C "children" f) (hb : Binds K fd ["self", "node"] []) (B : Blt mg) (T : TrT w K mg C) (CH : TM1 P w K mg base "check_node" (fun _ => .non) 2) : TM1 P w K mg base "children" (fun i => .lst ((kids i.rows i.at_).map fun (k : Nat) => D.int (k : Int))) 3 := by
  refine mth_of hC F scTKids hb (fun i => rfl) fun cdv A outer s H0 E i M Q hp hr kq => ?_
  have hlt := hp.lt
  have hlen := hp.len
  have hu : (A.deeper (PyProof.Rows.envOfC "Tree.children" (defScope sTKids) s.heap.objs.size f cdv)).units + 64 < cLine := by have := hr.un; omega
  refine at_expr (cs1 := []) (e_meth CH (hr.mono (by decide)) (e_name 0 rfl) (a_cons (e_name 1 rfl) a_nil) (by decide +kernel) i hp rfl) ?_
  refine at_end (e_lcFM [("at", 2)] (List.range i.rows.length) (fun (j : Nat) => D.int (j : Int)) (fun j => decide ((rowAt i.rows j).2 = some (i.at_ : Int))) (fun (j : Nat) => D.int (j : Int))
    (EI.eq (ei_rng1 (e_blt kd_lenL (a_cons (e_rows T (e_name 0 rfl)) a_nil) B.len) B.range (by rw [List.length_map]; omega)) (by rw [List.length_map]; simp [ups])) (ctg_name 2 scTKids.nd (by decide) rfl) (fun _ _ => trivial) (by simp; omega)
    (fun j hj M' hM s H C cl fp => t_cmp (e_ix (e_ix (e_rows T (e_name 0 rfl)) (e_name 2 rfl) (xd_lst (j := j) (by rw [List.length_map]; exact ixN_nat (List.mem_range.mp hj)) (by rw [List.getElem?_map, rows_get (List.mem_range.mp hj)]; rfl))) e_int (xd_tup (j := 1) rfl rfl)) (e_name 1 rfl) (cd_optEq (by exact hu)))
    (fun j hj q M' hM s H C cl fp => e_name 2 rfl) (blkOk_by rfl) scTKids.nd) ?_ (.head _) kq
  rw [← kids_range]
end
end Od

set_option Elab.async false
set_option linter.all false
set_option maxRecDepth 100000
set_option maxHeartbeats 4000000
/-! Tr2: node_text, Tree.text. -/
namespace Od
open PySem L2 TL PySem.Spec
local macro_rules
  | `(tactic| walk_at "le") => `(tactic| repeat (first | exact LeD.nil | apply LeD.drop | apply LeD.same))
section
variable {P : Program} {w : World} {K : PySem.W.Frag} {mg : Str → Option Value} {base : Heap}
theorem strOf_nil : strOf [] = ("" : Str) := ext_tl (by decide +kernel)
theorem star_str : ("*" : Str) = strOf [42] := ext_tl (by decide +kernel)
theorem strOf_tl (s : Str) : strOf (tl s) = s := ext_tl rfl
theorem join_strs (ts : List (List Nat)) : Txt.join "," (ts.map strOf) = strOf (joinL [44] ts) := by
  apply ext_tl
  rw [join_eq, tl_join]
  have e0 : tl (("," : Str)) = [44] := by decide +kernel
  rw [e0, List.map_map]
  have : ts.map (tl ∘ strOf) = ts := by
    have : (tl ∘ strOf) = id := by funext x; rfl
    rw [this, List.map_id]
  rw [this]; rfl
theorem brack (t : List Nat) : ("[" : Str) ++ strOf t ++ ("]" : Str) = strOf (91 :: (t ++ [93])) := by
  rw [show (("[" : Str)) = strOf [91] by decide +kernel, show (("]" : Str)) = strOf [93] by decide +kernel, strOf_app, strOf_app]
  rfl
theorem ok_nodeText {f C : Addr} {fd : FuncData} (F : Fun K "node_text" "node_text" sNodeText f fd) (hm : mg "node_text" = some (.ref f)) (hb : Binds K fd ["tree", "node"] []) (B : Blt mg) (T : TrT w K mg C) (KD : TM1 P w K mg base "children" (fun i => .lst ((kids i.rows i.at_).map fun (k : Nat) => D.int (k : Int))) 3) (AT : TM1 P w K mg base "letters_at" (fun i => .str (strOf (rowAt i.rows i.at_).1)) 3) : ∀ n, NodeTextD P w K mg base n (4 + n) := by
  intro n
  induction n with
  | zero => exact dfn_of F hm scNodeText hb (fun i => rfl) fun cdv A outer s H0 E i M Q hp hr kq => absurd hp.2 (by rw [fo_cons (ok_fwd hp.1.ok) hp.1.lt]; show ¬ max (1 + _) _ ≤ 0; omega)
  | succ n ih =>
    refine dfn_of F hm scNodeText hb (fun i => rfl) fun cdv A outer s H0 E i M Q hp hr kq => ?_
    obtain ⟨hp, hn⟩ := hp
    have hlt := hp.lt
    have hlen := hp.len
    have hf := ok_fwd hp.ok
    have hu : (A.deeper (PyProof.Rows.envOfC "node_text" (defScope sNodeText) s.heap.objs.size f cdv)).units + 64 < cLine := by have := hr.un; omega
    have hr3 : Room 3 _ := hr.mono (show 3 ≤ 4 + n by omega)
    have hkl : ∀ k ∈ kids i.rows i.at_, i.at_ < k ∧ k < i.rows.length := fun k hk => hf k i.at_ hk
    have hkn : (kids i.rows i.at_).length ≤ 1000 := by
      rw [kids_range]
      exact Nat.le_trans (List.length_filter_le _ _) (by simp; omega)
    have hsz := fo_le hp.ok (i.at_ + 1) i.at_ (Nat.lt_succ_self _) hlt
    rw [fo_cons hf hlt, fo_nil] at hsz
    have hsz2 : 1 + (fo i.rows (kids i.rows i.at_)).size + 0 ≤ i.rows.length := hsz
    have htl := txt_len _ _ (fo_okF hp.ok (kids i.rows i.at_))
    have hll := lets_len (ok_lets (k := i.at_) hp.ok)
    refine at_lcM 2 [("child", 3)] (kids i.rows i.at_) (fun (k : Nat) => D.int (k : Int)) (fun k => D.str (strOf (fo i.rows [k]).txt)) (ei_list (EE.eq (e_meth KD hr3 (e_name 0 rfl) (a_cons (e_name 1 rfl) a_nil) (by decide +kernel) i hp rfl) rfl)) (ctg_name 3 scNodeText.nd (by decide) rfl) (fun _ _ => trivial) (by omega)
      (fun k hk M' hM s2 H2 C2 cl2 fp2 => EE.eq (e_call ih hr (a_cons (e_name 0 rfl) (a_cons (e_name 3 rfl) a_nil)) (⟨i.rows, k⟩ : TrI) ⟨⟨hp.ok, hp.len, (hkl k hk).2⟩, by
        have h1 := fo_dep hf _ (fun j hj => (hkl j hj).2) k hk
        rw [fo_cons hf hlt, fo_nil] at hn
        have h2 : max (1 + (fo i.rows (kids i.rows i.at_)).dep) 0 ≤ n + 1 := hn
        show (fo i.rows [k]).dep ≤ n
        omega⟩ rfl) rfl) (blkOk_by rfl) scNodeText.nd ?_
    refine at_set 4 (d := .str (strOf (rowAt i.rows i.at_).1)) (EE.eq (e_meth AT hr3 (e_name 0 rfl) (a_cons (e_name 1 rfl) a_nil) (by decide +kernel) i hp rfl) rfl) ?_ scNodeText.nd
    have hmap : ((kids i.rows i.at_).map fun k => D.str (strOf (fo i.rows [k]).txt)) = ((kids i.rows i.at_).map fun k => strOf (fo i.rows [k]).txt).map D.str := by simp
    have hjo : Txt.join "," ((kids i.rows i.at_).map fun k => strOf (fo i.rows [k]).txt) = strOf (fo i.rows (kids i.rows i.at_)).txt := by
      have := join_strs ((kids i.rows i.at_).map fun k => (fo i.rows [k]).txt)
      rw [List.map_map] at this
      rw [join_fo hf _ fun k hk => (hkl k hk).2] at this
      exact this
    have hsum : (((kids i.rows i.at_).map fun k => strOf (fo i.rows [k]).txt).map (·.length)).sum ≤ 29000 := by
      have h1 := len_sum ((kids i.rows i.at_).map fun k => (fo i.rows [k]).txt)
      rw [join_fo hf _ fun k hk => (hkl k hk).2, List.map_map] at h1
      have h2 : (((kids i.rows i.at_).map fun k => strOf (fo i.rows [k]).txt).map (·.length)) = (kids i.rows i.at_).map (List.length ∘ fun k => (fo i.rows [k]).txt) := by
        rw [List.map_map]; rfl
      rw [h2]
      omega
    have hcp : ∀ x ∈ (kids i.rows i.at_).map (fun k => strOf (fo i.rows [k]).txt), ∀ c ∈ tl x, c < 1114112 := fun x hx c hc => by
      obtain ⟨k, _, rfl⟩ := List.mem_map.mp hx
      have := txt_cp _ _ (fo_okF hp.ok [k]) c hc
      omega
    have hz0 : ∀ h : kids i.rows i.at_ ≠ [], (fo i.rows (kids i.rows i.at_)).size ≠ 0 := fun h => by
      obtain ⟨k, r, e⟩ := List.exists_cons_of_ne_nil h
      rw [e, fo_cons hf (hkl k (by rw [e]; simp)).2]
      show 1 + _ + _ ≠ 0
      omega
    have hlab : (if (rowAt i.rows i.at_).1 = [] then strOf [42] else strOf (rowAt i.rows i.at_).1) = strOf (lab (rowAt i.rows i.at_).1) := by
      unfold lab
      split <;> rfl
    have hll2 : (lab (rowAt i.rows i.at_).1).length ≤ 26 := by
      unfold lab
      split
      · simp
      · exact hll
    refine at_end (d := .str (strOf (lab (rowAt i.rows i.at_).1) ++ (if kids i.rows i.at_ = [] then strOf [] else strOf (91 :: ((fo i.rows (kids i.rows i.at_)).txt ++ [93]))))) (e_bin (e_if (p0 := !decide ((rowAt i.rows i.at_).1 = [])) (ET.eq (t_cmp (e_name 4 rfl) e_str cd_neS) ?c1) rfl (fun h => EE.eq (e_name 4 rfl) ?c2) fun h => EE.eq e_str ?c3)
      (e_if (p0 := !decide (kids i.rows i.at_ = [])) (ET.eq (t_cmp (EE.eq (e_name 2 rfl) (congrArg D.lst hmap)) (EE.eq (e_lst a_nil) rfl) (cd_neD hu (p := .list (((kids i.rows i.at_).map fun k => strOf (fo i.rows [k]).txt).map PyData.str)) (q := .list ([] : List PyData)) (by simp only [toPy, toPys_strs, Option.map_some]) (by simp only [toPy, toPys, Option.map_some]) (shaped_strs hcp) (by decide))) ?c4) rfl
        (fun h => EE.eq (e_bin (e_bin e_str (e_join (ts := (kids i.rows i.at_).map fun k => strOf (fo i.rows [k]).txt) ?c5 e_str (EE.eq (e_name 2 rfl) (congrArg D.lst hmap))) (bd_addS ?c6)) e_str (bd_addS ?c7)) ?c8) (fun h => EE.eq e_str ?c9)) (bd_addS ?c10)) ?c11 (.head _) kq
    case c1 =>
      congr 1
      rw [Bool.eq_iff_iff, decide_eq_true_iff, decide_eq_true_iff]
      exact ⟨fun h => congrArg tl h, fun h => by rw [h]; exact strOf_nil⟩
    case c2 =>
      rw [← hlab, if_neg (by simpa using h)]
    case c3 =>
      rw [← hlab, if_pos (by simpa using h)]; exact congrArg D.str star_str
    case c4 =>
      rw [show ([] : List PyData) = ([] : List Str).map PyData.str from rfl]
      simp only [PyData.eqv]
      rw [eqv_strs]
      congr 1
      rw [Bool.eq_iff_iff, decide_eq_true_iff, decide_eq_true_iff]
      simp
    case c5 =>
      have h1 : (("," : Str)).length = 1 := by decide +kernel
      have h2 : ((kids i.rows i.at_).map fun k => strOf (fo i.rows [k]).txt).length = (kids i.rows i.at_).length := List.length_map ..
      rw [h1, h2]
      omega
    case c6 =>
      rw [hjo]
      have : (("[" : Str)).length = 1 := by decide +kernel
      have h2 : (strOf (fo i.rows (kids i.rows i.at_)).txt).length = (fo i.rows (kids i.rows i.at_)).txt.length := rfl
      exact Nat.le_trans (show _ ≤ 100000 by omega) (by decide)
    case c7 =>
      rw [hjo, len_app]
      have : (("[" : Str)).length = 1 := by decide +kernel
      have : (("]" : Str)).length = 1 := by decide +kernel
      have h2 : (strOf (fo i.rows (kids i.rows i.at_)).txt).length = (fo i.rows (kids i.rows i.at_)).txt.length := rfl
      exact Nat.le_trans (show _ ≤ 100000 by omega) (by decide)
    case c8 =>
      rw [hjo, brack, if_neg (by simpa using h)]
    case c9 =>
      rw [if_pos (by simpa using h)]; exact congrArg D.str strOf_nil.symm
    case c10 =>
      have h1 : (strOf (lab (rowAt i.rows i.at_).1)).length = (lab (rowAt i.rows i.at_).1).length := rfl
      have h2 : (if kids i.rows i.at_ = [] then strOf [] else strOf (91 :: ((fo i.rows (kids i.rows i.at_)).txt ++ [93]))).length ≤ 2 + (fo i.rows (kids i.rows i.at_)).txt.length := by
        split
        · show 0 ≤ _; omega
        · show (91 :: ((fo i.rows (kids i.rows i.at_)).txt ++ [93])).length ≤ _
          simp; omega
      exact Nat.le_trans (show _ ≤ 100000 by omega) (by decide)
    case c11 =>
      show D.str _ = D.str (strOf (fo i.rows [i.at_]).txt)
      rw [fo_cons hf hlt, fo_nil]
      show _ = D.str (strOf (lab _ ++ ((if _ then [] else _) ++ (if (0 : Nat) = 0 then [] else _))))
      by_cases h : kids i.rows i.at_ = []
      · rw [if_pos h, h, fo_nil, strOf_app]
        simp [Fo.size]
      · rw [if_neg h, if_neg (hz0 h), strOf_app]
        simp
theorem ok_ttext {f : Addr} {fd : FuncData} (F : Fun K "text" "Tree.text" sTText f fd) (hC : ∃ C, mg "Tree" = some (.ref C) ∧ Cls K C ∧ Meth K C "text" f) (hb : Binds K fd ["self"] []) {n k : Nat} (NT : NodeTextD P w K mg base n k) : Mth P w K mg base "Tree" "text" (k + 1) (puSp K mg (fun rows : List Row => okRows [] rows = true ∧ rows ≠ [] ∧ rows.length ≤ 1000 ∧ (fo rows [0]).dep ≤ n) (fun rows => [treeO rows]) (fun rows => .str (strOf (fo rows [0]).txt))) := by
  refine mth_of hC F scTText hb (fun i => rfl) fun cdv A outer s H0 E rows M Q hp hr kq => ?_
  exact at_end (d := .str (strOf (fo rows [0]).txt)) (EE.eq (e_call NT hr (a_cons (e_name 0 rfl) (a_cons e_int a_nil)) (⟨rows, 0⟩ : TrI) ⟨⟨hp.1, hp.2.2.1, List.length_pos_iff.mpr hp.2.1⟩, hp.2.2.2⟩ rfl) rfl) rfl (.head _) kq
end
end Od

set_option Elab.async false
set_option linter.all false
set_option maxRecDepth 100000
set_option maxHeartbeats 4000000
/-! Od32: name = [.. for .. if ..]. -/
namespace Od
open PySem L2 TL PySem.Spec
section
variable {α : Type} {X : Cx} {M : Addr → Prop} {e : DE} {cs cs1 : Cs} {pos : Pos} {tg : Expr}
theorem at_lcFM {scope : Scope} {fr : Frs} {rest : List Stmt} {D0 : Ends} {y : Str} {py spos : Pos} (j : Nat) (own : List (Str × Nat)) {iter elt c : Expr} {ef : D → DE} {P : D → Prop} (xs : List α) (g : α → D) (q : α → Bool) (f : α → D) (hi : EI X M e cs tg iter (xs.map g) cs1) (ht : CTg X scope (own.map (·.2)) e tg ef P) (hP : ∀ x ∈ xs, P (g x)) (hn : xs.length ≤ 100000)
    (test : ∀ x ∈ xs, ∀ (M' : Addr → Prop), (∀ a, M a → M' a) → ∀ (s : Shared) (H : Hp) (C : Addr) (cl : List (Str × Addr)) (fp : List Addr), ET (blkOf X scope s H C cl fp) M' (ef (g x)) cs1 c (q x) cs1)
    (turn : ∀ x ∈ xs, q x = true → ∀ (M' : Addr → Prop), (∀ a, M a → M' a) → ∀ (s : Shared) (H : Hp) (C : Addr) (cl : List (Str × Addr)) (fp : List Addr), EE (blkOf X scope s H C cl fp) M' (ef (g x)) cs1 elt (f x) cs1)
    (ok : BlkOk X.N X.env.scope scope own) (hN : X.N.Nodup) (k : At X M (e.set j (some (.lst ((xs.filter q).map f)))) cs1 fr (wSs X rest D0)) (hj : X.N[j]? = some y := by rfl) (hl : X.env.scope.names.lookup y = some .local := by rfl) (hk : X.env.scope.kind = .function := by rfl) (hln : (py.line == pos.line) = true := by rfl) (hno : (scope.names.any fun (n, k) => n == y && (k == .local || k == .cell)) = false := by rfl) (hc : X.calm = true := by rfl) (hs : ∀ x, foldedSetIterable iter X.env x = pure x := by intro _; rfl) :
    At X M e cs fr (wSs X (.Assign [.Name y py] (.ListComp elt [⟨tg, iter, [c], 0⟩] scope pos) spos :: rest) D0) := fun σ H St x l => by
  have at_ : ∀ (i : Nat) (d : D), (xs.map g)[i]? = some d → ∃ x, xs[i]? = some x ∧ x ∈ xs ∧ d = g x := fun i d h => by
    rw [List.getElem?_map] at h
    cases q : xs[i]? with
    | none => rw [q] at h; cases h
    | some x => rw [q] at h; exact ⟨x, rfl, List.mem_of_getElem? q, (Option.some.inj h).symm⟩
  have hdm := hi.dm
  obtain ⟨t, h1, h2, h3⟩ := lc_core' (pos := pos) (elt := elt) (ifs := [c]) hi ht (fun d hd => by
    obtain ⟨x, hx, rfl⟩ := List.mem_map.mp hd
    exact hP x hx) (fun _ => cs1) (fun _ => cs1) (fun i => ((xs[i]?).map q).getD false) (fun i => ((xs[i]?).map f).getD .non) rfl (fun _ => rfl) (fun _ => rfl) (by simpa using hn)
    (fun σ H Q => ∀ (s : Shared) (H0 : Hp) (C : Addr) (cl : List (Str × Addr)) (fp : List Addr), wT (blkOf X scope s H0 C cl fp) c σ H Q) (fun s H C cl fp => pts_one ⟨fun pins s1 σ H1 Q I h => h s H C cl fp pins s1 I⟩)
    (fun i d hd M' hM σ H Q S k s0 H0 C cl fp => by
      obtain ⟨x, q1, hx, rfl⟩ := at_ i d hd
      simp only [q1, Option.map_some, Option.getD_some] at k
      exact (test x hx M' hM s0 H0 C cl fp).k σ H Q S k)
    (fun i d hd hk M' hM s H C cl fp => by
      obtain ⟨x, q1, hx, rfl⟩ := at_ i d hd
      simp only [q1, Option.map_some, Option.getD_some] at hk ⊢
      exact turn x hx hk M' hM s H C cl fp) (fun i d hd h => rfl) hc hN ok hs
  refine wss_of (pss_cons (h3 y py spos j hj hl (sw_true hk hl hln hno)) pss_w) (h2 σ H _ St fun v H' S' x' r' => ?_)
  rw [List.length_map, outs_filM] at r'
  exact k _ H' (S'.set j r') (ext_on x l x') (lo_of l hdm)
end
section
variable {X : Cx} {M : Addr → Prop} {e : DE} {cs cs1 cs2 : Cs} {fr : Frs} {D0 : Ends} {pos : Pos} {b : Expr} {es : List Expr} {rest : List Stmt} {y : D} {ds : List D} {n m : Str}
/-- x, y = ([..], v), unpacked: x a list that changes from here on -/
theorem at_unpL {px py pt pt2 pl : Pos} {kt k2} (i j : Nat) (ha : EA X M e cs es ds cs1) (hl : ds.length ≤ 100000) (hb : ∀ q, ¬ M q → EE X (fun b => M b ∨ b = q) e ((q, .lst ds) :: cs1) b y ((q, .lst ds) :: cs2))
    (kk : ∀ q, ¬ M q → At X (fun b => M b ∨ b = q) ((e.set i (some (.ref q))).set j (some y)) ((q, .lst ds) :: cs2) fr (wSs X rest D0)) (hN : X.N.Nodup) (hi : X.N[i]? = some n := by rfl) (hj : X.N[j]? = some m := by rfl)
    (hx : Loc X.env.scope n := by first | exact .inl rfl | exact .inr rfl) (hx2 : Loc X.env.scope m := by first | exact .inl rfl | exact .inr rfl) (hf : X.fn n = true ∨ X.env.scope.names.lookup n = some .local := by first | exact .inl rfl | exact .inr rfl) (hf2 : X.fn m = true ∨ X.env.scope.names.lookup m = some .local := by first | exact .inl rfl | exact .inr rfl) (hc : X.calm = true := by rfl)
    (hs : swapsWithSole [.Tuple [.Name n px, .Name m py] kt pt] (.Tuple [.List es pl, b] k2 pt2) pos.line X.env = pure false := by rfl) (hw : swappedStores [.Tuple [.Name n px, .Name m py] kt pt] (.Tuple [.List es pl, b] k2 pt2) X.env = pure none := by rfl)
    (h0 : (assignEach [.Tuple [.Name n px, .Name m py] kt pt] X.env).map (·.2) = [assign (.Tuple [.Name n px, .Name m py] kt pt) X.env] := by rfl)
    (h1 : ∀ E : Env, (assignEach [.Name n px, .Name m py] E).length = 2 := by intro _; rfl) (h2 : ∀ E : Env, (assignEach [.Name n px, .Name m py] E).findIdx? (·.1) = none := by intro _; rfl)
    (h3 : ∀ E : Env, (assignEach [.Name n px, .Name m py] E).map (·.2) = assign (.Name n px) E :: (assignEach [.Name m py] E).map (·.2) := by intro _; rfl) (h4 : ∀ E : Env, (assignEach [.Name m py] E).map (·.2) = assign (.Name m py) E :: (assignEach [] E).map (·.2) := by intro _; rfl)
    (hst : starEach [.List es pl, b] X.env = (false, eval (.List es pl) X.env) :: starEach [b] X.env := by rfl) (hst2 : starEach [b] X.env = (false, eval b X.env) :: starEach [] X.env := by rfl) :
    At X M e cs fr (wSs X (.Assign [.Tuple [.Name n px, .Name m py] kt pt] (.Tuple [.List es pl, b] k2 pt2) pos :: rest) D0) := fun σ H S xx l => by
  refine wss_of (pss_cons (ps_asg (pe_tup (pa_cons (pe_lst pa_w) (pa_cons pe_w pa_nil hst2) hst)) (pg_tup hc (pgs_cons (pg_name hN hi hx hf) (pgs_cons (pg_name hN hj hx2 hf2) pgs_nil (h4 _)) (h3 _)) (h1 _) (h2 _)) hs hw h0) pss_w) ?_
  refine ha.k σ H _ S fun vs H1 S1 x1 r1 => ⟨by rw [r1.length]; exact Nat.le_trans hl (by decide), fun q hq => ?_⟩
  have nq := new_m S1.mt hq
  have F1 := ext_on xx l x1
  have L1 := lo_of l ha.dm
  have L2 := lo_new (mc := .lst ds) F1 L1 hq
  have F2 := ext_on F1 L1 (show Ext (dom cs1) H1 (upd H1 q (.lst vs)) from Ext.new hq)
  refine (hb q nq).k σ _ _ (sit_new S1 r1 hq) fun v H2 S2 x2 r2 => ⟨by rw [sizeLine_eq]; exact (by decide : 2 ≤ 16777216), fun p hp => ?_⟩
  have F3 := ext_on F2 L2 x2
  have L3 := lo_of L2 (hb q nq).dm
  have xn : Ext [] H2 (upd H2 p (.tup [.ref q, v])) := Ext.new hp
  exact ⟨p, [.ref q, v], rfl, .inl (.of upd_same), rfl, .ref q, [v], rfl, v, [], rfl, rfl, kk q nq _ _ (((S2.ex xn).set i (by simp [R])).set j (S2.r (xn.mono (by simp)) r2)) (ext_on F3 L3 (xn.mono (by simp))) L3⟩
end
theorem EE.cq {X : Cx} {M : Addr → Prop} {e : DE} {cs cs1 cs2 : Cs} {ex : Expr} {d : D} (h : EE X M e cs ex d cs1) (q : cs1 = cs2) : EE X M e cs ex d cs2 := q ▸ h
theorem ET.cq {X : Cx} {M : Addr → Prop} {e : DE} {cs cs1 cs2 : Cs} {ex : Expr} {b : Bool} (h : ET X M e cs ex b cs1) (q : cs1 = cs2) : ET X M e cs ex b cs2 := q ▸ h
end Od

set_option Elab.async false
set_option linter.all false
set_option maxRecDepth 100000
set_option maxHeartbeats 4000000
/-! LaR: the law's trees: _law_rows, _law_row_text. -/
namespace Od
open PySem L2 TL PySem.Spec
abbrev sRows : Stmt := top 31
abbrev sRowText : Stmt := top 32
local macro_rules
  | `(tactic| walk_at "bd") => `(tactic| first | exact bd_add | exact bd_sub | exact bd_mulR (by decide) | exact bd_mulL (by decide) | exact bd_mod (by decide) | exact bd_div (by decide))
local macro_rules
  | `(tactic| walk_at "le") => `(tactic| repeat (first | exact LeD.nil | apply LeD.drop | apply LeD.same))
structure RwI where
  ad : Addr
  b : Bag
  cs : List Nat
  most : Nat
structure RwI.Pre (i : RwI) : Prop where
  ok : i.b.Ok
  le : letsB i.cs = true
  m1 : 0 < i.most
  m2 : i.most ≤ 500
section
variable (P : Program) (w : World) (K : PySem.W.Frag) (mg : Str → Option Value) (base : Heap)
abbrev RowsD (k : Nat) : Prop := Dfn P w K mg base "_law_rows" k (fnSp K mg RwI.Pre (fun i => [.ref i.ad, .str (strOf i.cs), .int (i.most : Int)]) (fun i => [(i.ad, i.b.c)]) (fun i => rowsD (rowsF i.b i.cs i.most).rows) (fun i => [(i.ad, (rowsF i.b i.cs i.most).bag.c)]))
abbrev RowTextD (f k : Nat) : Prop := Dfn P w K mg base "_law_row_text" k (puSp K mg (fun i : TrI => i.Pre ∧ (fo i.rows [i.at_]).dep ≤ f) (fun i => [rowsD i.rows, .int (i.at_ : Int)]) (fun i => .str (strOf (fo i.rows [i.at_]).txt)))
variable {P w K mg base}
theorem scRows : FnScope ["_law_bag", "_law_signs_here", "_law_most", "_law_found", "_law_path", "_law_sign", "_law_at", "_law_mother"] ["_law_bag", "_law_signs_here", "_law_most"] (defScope sRows) := ⟨rfl, rfl, rfl, by decide +kernel, rfl, by decide +kernel, by decide +kernel⟩
theorem scRowText : FnScope ["_law_mine", "_law_at", "_law_inner", "_law_late"] ["_law_mine", "_law_at"] (defScope sRowText) := ⟨rfl, rfl, rfl, by decide +kernel, rfl, by decide +kernel, by decide +kernel⟩
theorem cut_take (ds : List D) (n : Nat) : cutD ds none (some (n : Int)) = ds.take n := by
  have h0 : HT.sIx ds.length 0 none = 0 := rfl
  have e : HT.sIx ds.length ds.length (some (n : Int)) = min n ds.length := by
    unfold HT.sIx
    simp
    omega
  unfold cutD
  rw [e, h0, List.drop_zero, Nat.sub_zero]
  rcases Nat.le_total n ds.length with h | h
  · rw [Nat.min_eq_left h]
  · rw [Nat.min_eq_right h, List.take_length, List.take_of_length_le h]
theorem ok_rows {f : Addr} {fd : FuncData} (F : Fun K "_law_rows" "_law_rows" sRows f fd) (hm : mg "_law_rows" = some (.ref f)) (hb : Binds K fd ["_law_bag", "_law_signs_here", "_law_most"] []) (B : Blt mg) (D0 : DrawD P w K mg base 3) : RowsD P w K mg base 4 := by
  refine dfn_of F hm scRows hb (fun i => rfl) fun cdv A outer s H0 E i M Q hp hr kq => ?_
  obtain ⟨ad, b, cs, most⟩ := i
  obtain ⟨ok, lets, m1, m2⟩ := hp
  dsimp only at ok lets m1 m2 kq
  have hcl := lets_len lets
  have hal := (lets_iff.mp lets).1
  have sgs : (signs (strOf cs)).map D.str = cs.map fun c => D.str (sg c) := by
    show ((cs.map sg)).map D.str = _
    simp
  have hselS : ∀ (mem : List Nat) (m : Int) (b : Bag) (j c : Nat), cs[j]? = some c → c ∉ mem → (selF mem m b (cs.take (j + 1))).2 = (draw (selF mem m b (cs.take j)).2 m).2 := fun mem m b j c hc hn => by
    rw [selF_take hc]
    unfold sel1
    rw [if_neg hn]
    split <;> rfl
  refine at_unpL 3 4 (ds := [Row.d ((selF [] 3 b cs).1, none)]) (y := .lst [.int 0]) (cs1 := [(ad, (rows0 b cs).bag.c)]) (cs2 := [(ad, (rows0 b cs).bag.c)]) (a_cons (EE.eq (e_tup (a_cons (e_join (ts := (selF [] 3 b cs).1.map sg) (join_len0 _ ?l1) e_str (EE.eq (EE.cq (e_lcFS [("_law_sign", 5)] cs (fun c => D.str (sg c)) (fun i => [(ad, (selF [] 3 b (cs.take i)).2.c)]) (keepS [] 3 b cs) (fun i => D.str (sg (cs.getD i 0))) (EI.eq (ei_str (e_name 1 rfl)) sgs) (ctg_name 5 scRows.nd (by decide) rfl) (fun _ _ => trivial) (by omega) rfl (fun _ => rfl)
      (fun j c hc M' hM s2 H2 C2 cl2 fp2 => ?test) (fun j c hc hk M' hM s2 H2 C2 cl2 fp2 => ?turn) (blkOk_by rfl) scRows.nd) (by rw [List.take_length]; rfl)) ?outs)) (a_cons e_non a_nil))) ?row) a_nil) (by simp) (fun q nq => e_lst (a_cons e_int a_nil)) (fun q nq => ?_) scRows.nd
  case l1 =>
    have := (selF_spec [] 3 b cs).1.length_le
    omega
  case test =>
    rw [hselS [] 3 b j c hc (by simp)]
    refine ET.eq (t_cmp (e_draw D0 (hr.mono (by decide)) (e_name 0 rfl) e_int .here (selF_ok ok _) (by decide)) e_int cd_eqI) ?_
    unfold keepS
    rw [hc]
    simp
  case turn =>
    refine EE.eq (e_name 5 rfl) ?_
    simp [List.getD, hc]
  case outs => rw [outs_sel _ _ _ _ _ (Nat.le_refl _), List.take_length]
  case row => rw [join_sg]; rfl
  obtain ⟨d0, d1⟩ := draw_lo (b := (rows0 b cs).bag) (s := (most : Int)) (by omega)
  have hb0 : (rows0 b cs).bag.Ok := selF_ok ok cs
  have hl2 := log2_le (n := most) (by omega)
  refine at_for (α := fun _ => Unit) (ds := (ups 1 (draw (rows0 b cs).bag most).1.toNat).map D.int) (fun _ _ => True)
    (fun i _ => [some (.ref ad), some (.str (strOf cs)), some (.int (most : Int)), some (.ref q), some (.lst ((rowsN b cs most i).path.map fun (k : Nat) => D.int (k : Int))), none, none, none])
    (fun i _ => [(q, .lst ((rowsN b cs most i).rows.map Row.d)), (ad, (rowsN b cs most i).bag.c)])
    (EI.eq (ei_rng2 e_int (e_bin e_int (e_draw (n := (most : Int)) D0 (hr.mono (by decide)) (e_name 0 rfl) (e_name 2 rfl) (.there .here) hb0 ⟨by omega, hl2⟩) (by walk_at "bd")) B.range (by omega)) (by
      congr 2
      omega)) (ltg_name 6 scRows.nd) (fun _ _ => trivial) () trivial rfl rfl (fun _ _ _ => rfl) (fun i d u H1 hd _ => ?_) fun u _ => ?_
  · have hi : i < (draw (rows0 b cs).bag most).1.toNat ∧ d = .int (1 + (i : Int)) := by
      unfold ups at hd
      rw [List.map_map, List.getElem?_map] at hd
      cases e : (List.range (draw (rows0 b cs).bag most).1.toNat)[i]? with
      | none => rw [e] at hd; cases hd
      | some k =>
        obtain ⟨h1, h2⟩ := List.getElem?_eq_some_iff.mp e
        rw [List.length_range] at h1
        rw [List.getElem_range] at h2
        rw [e] at hd
        subst h2
        exact ⟨h1, (Option.some.inj hd).symm⟩
    obtain ⟨hi, rfl⟩ := hi
    have G := grownN ok lets (most : Int) i
    have hbk := rowsN_ok ok cs (most : Int) i
    have hsucc := rowsN_succ b cs (most : Int) i
    generalize rowsN b cs most i = st at G hbk hsucc
    obtain ⟨rows, path, bag⟩ := st
    obtain ⟨⟨ft, t1, t2, t3⟩, g2, g3, g4, g5, g6⟩ := G
    dsimp only at t2 t3 g2 g3 g4 g5 g6 hbk ⊢
    obtain ⟨e0, e1⟩ := draw_lo (b := bag) (s := (path.length : Int)) (by omega)
    have o2 := draw_ok hbk (path.length : Int)
    have hlp := log2_le (n := path.length) (by omega)
    generalize hdr : draw bag (path.length : Int) = dr at e0 e1 o2
    have htl : (path.take (1 + dr.1.toNat)).length = 1 + dr.1.toNat := by rw [List.length_take]; omega
    refine at_set 4 (d := .lst ((path.take (1 + dr.1.toNat)).map fun (k : Nat) => D.int (k : Int))) (cs1 := [(q, .lst (rows.map Row.d)), (ad, dr.2.c)]) (EE.eq (EE.cq (e_slice (e_name 4 rfl) o_none (o_some (e_bin e_int (e_draw D0 (hr.mono (by decide)) (e_name 0 rfl) (EE.eq (e_blt kd_lenL (a_cons (e_name 4 rfl) a_nil) B.len) (by rw [List.length_map])) (.there .here) hbk ⟨by omega, hlp⟩) (by walk_at "bd"))) sd_lst) (by rw [hdr])) (by
      rw [hdr, show (1 : Int) + dr.1 = ((1 + dr.1.toNat : Nat) : Int) by omega, cut_take, List.map_take])) ?_ scRows.nd
    have hmo : ((path.take (1 + dr.1.toNat)).map fun (k : Nat) => D.int (k : Int))[(path.take (1 + dr.1.toNat)).length - 1]? = some (.int (((path.take (1 + dr.1.toNat)).getD ((path.take (1 + dr.1.toNat)).length - 1) 0 : Nat) : Int)) := by
      rw [List.getElem?_map]
      simp only [List.getD, List.getElem?_eq_getElem (show (path.take (1 + dr.1.toNat)).length - 1 < (path.take (1 + dr.1.toNat)).length by omega)]
      rfl
    generalize hpt : path.take (1 + dr.1.toNat) = pt at htl hmo
    generalize hmv : pt.getD (pt.length - 1) 0 = mo at hmo
    refine at_set 7 (d := .int (mo : Int)) (cs1 := [(q, .lst (rows.map Row.d)), (ad, dr.2.c)]) (e_ix (e_name 4 rfl) (e_bin (EE.eq (e_blt kd_lenL (a_cons (e_name 4 rfl) a_nil) B.len) (by rw [List.length_map])) e_int (by walk_at "bd")) (xd_lst (j := pt.length - 1) (by rw [List.length_map, show ((pt.length : Nat) : Int) - 1 = ((pt.length - 1 : Nat) : Int) by omega]; exact ixN_nat (by omega)) hmo)) ?_ scRows.nd
    have er : row1 cs ⟨rows, path, bag⟩ (1 + i) = ⟨rows ++ [((selF (rowAt rows mo).1 2 dr.2 cs).1, some (mo : Int))], pt ++ [1 + i], (selF (rowAt rows mo).1 2 dr.2 cs).2⟩ := by
      unfold row1
      dsimp only
      rw [hdr, hpt, hmv]
    rw [er] at hsucc
    have hfs : ft.size = i + 1 := by rw [← g4, t2, flat_len]
    have hmem : mo ∈ path := by
      have h1 : mo ∈ pt := by
        rw [← hmv]
        simp only [List.getD, List.getElem?_eq_getElem (show pt.length - 1 < pt.length by omega), Option.getD_some]
        exact List.getElem_mem _
      rw [← hpt] at h1
      exact List.mem_of_mem_take h1
    have hmlt : mo < rows.length := by
      rw [t3] at hmem
      have := pathR_lt ft 0 mo hmem
      omega
    have hgm : (rows.map Row.d)[mo]? = some (rowAt rows mo).d := by rw [List.getElem?_map, rows_get hmlt]; rfl
    generalize hmm : (rowAt rows mo).1 = mem at hsucc
    have hptl : pt.length ≤ 1000 := by omega
    refine at_expr (d := .non) (cs1 := [(q, .lst (rows.map Row.d ++ [Row.d ((selF mem 2 dr.2 cs).1, some (mo : Int))])), (ad, (selF mem 2 dr.2 cs).2.c)]) (e_app (cs1 := [(q, .lst (rows.map Row.d)), (ad, (selF mem 2 dr.2 cs).2.c)]) (e_name 3 rfl) ⟨_, .head _⟩ (EE.eq (e_tup (a_cons (e_join (ts := (selF mem 2 dr.2 cs).1.map sg) (join_len0 _ ?l1) e_str (EE.eq (EE.cq (e_lcFS [("_law_sign", 5)] cs (fun c => D.str (sg c)) (fun j => [(q, .lst (rows.map Row.d)), (ad, (selF mem 2 dr.2 (cs.take j)).2.c)]) (keepS mem 2 dr.2 cs) (fun j => D.str (sg (cs.getD j 0))) (EI.eq (ei_str (e_name 1 rfl)) sgs) (ctg_name 5 scRows.nd (by decide) rfl) (fun _ _ => trivial) (by omega) rfl (fun _ => rfl)
      (fun j c hc M' hM s2 H2 C2 cl2 fp2 => ?test) (fun j c hc hk M' hM s2 H2 C2 cl2 fp2 => ?turn) (blkOk_by rfl) scRows.nd) (by rw [List.take_length])) ?outs)) (a_cons (e_name 7 rfl) a_nil))) ?row) .here (by rw [List.length_map]; omega)) ?go
    case l1 =>
      have := (selF_spec mem 2 dr.2 cs).1.length_le
      omega
    case test =>
      have hk : keepS mem 2 dr.2 cs j = (decide (c ∈ mem) || decide ((draw (selF mem 2 dr.2 (cs.take j)).2 2).1 = 0)) := by unfold keepS; rw [hc]
      rw [hk]
      refine t_ew (t_orS (p0 := decide (c ∈ mem)) (q0 := decide ((draw (selF mem 2 dr.2 (cs.take j)).2 2).1 = 0)) (ET.eq (t_cmp (e_name 5 rfl) (e_ix (EE.eq (e_ixc (e_name 3 rfl) (e_name 7 rfl) (.head _) (j := mo) (by rw [List.length_map]; exact ixN_nat hmlt) hgm) (show (rowAt rows mo).d = .tup [.str (strOf (rowAt rows mo).1), optD (rowAt rows mo).2] from rfl)) e_int (xd_tup (j := 0) rfl rfl)) cd_inC) (by rw [← hmm]; rfl)) rfl (fun h => ?_) (fun h => ?_))
      · rw [hselS mem 2 dr.2 j c hc (of_decide_eq_false h)]
        exact t_or1 (t_cmp (e_draw D0 (hr.mono (by decide)) (e_name 0 rfl) e_int (.there .here) (selF_ok o2 _) (by decide)) e_int cd_eqI)
      · have : (selF mem 2 dr.2 (cs.take (j + 1))).2 = (selF mem 2 dr.2 (cs.take j)).2 := by
          rw [selF_take hc]
          unfold sel1
          rw [if_pos (of_decide_eq_true h)]
        rw [this]
    case turn =>
      refine EE.eq (e_name 5 rfl) ?_
      simp [List.getD, hc]
    case outs => rw [outs_sel _ _ _ _ _ (Nat.le_refl _), List.take_length]
    case row => rw [join_sg]; rfl
    case go =>
      refine at_set 4 (d := .lst ((pt ++ [1 + i]).map fun (k : Nat) => D.int (k : Int))) (EE.eq (e_bin (e_name 4 rfl) (e_lst (ds := [.int (1 + (i : Int))]) (a_cons (e_name 6 rfl) a_nil)) (bd_addL (by rw [List.length_map]; simp; omega))) (by simp)) ?_ scRows.nd
      refine at_nil (at_go (at_inv (e := [some (.ref ad), some (.str (strOf cs)), some (.int (most : Int)), some (.ref q), some (.lst ((pt ++ [1 + i]).map fun (k : Nat) => D.int (k : Int))), none, none, none]) () trivial ?_ ?_) (by walk_at "le") rfl)
      · rw [hsucc]
      · rw [hsucc]
        simp
  · rw [show ((ups 1 (draw (rows0 b cs).bag most).1.toNat).map D.int).length = (draw (rows0 b cs).bag most).1.toNat by simp [ups]]
    exact at_doneC (M0 := M) (c2 := [(ad, (rowsF b cs most).bag.c)]) (e_name 3 rfl) nq (.head _) kq
theorem ok_rowText {f : Addr} {fd : FuncData} (F : Fun K "_law_row_text" "_law_row_text" sRowText f fd) (hm : mg "_law_row_text" = some (.ref f)) (hb : Binds K fd ["_law_mine", "_law_at"] []) (B : Blt mg) : ∀ n, RowTextD P w K mg base n (1 + n) := by
  intro n
  induction n with
  | zero => exact dfn_of F hm scRowText hb (fun i => rfl) fun cdv A outer s H0 E i M Q hp hr kq => absurd hp.2 (by rw [fo_cons (ok_fwd hp.1.ok) hp.1.lt]; show ¬ max (1 + _) _ ≤ 0; omega)
  | succ n ih =>
    refine dfn_of F hm scRowText hb (fun i => rfl) fun cdv A outer s H0 E i M Q hp hr kq => ?_
    obtain ⟨hp, hn⟩ := hp
    have hlt := hp.lt
    have hlen := hp.len
    have hf := ok_fwd hp.ok
    have hu : (A.deeper (PyProof.Rows.envOfC "_law_row_text" (defScope sRowText) s.heap.objs.size f cdv)).units + 64 < cLine := by have := hr.un; omega
    have hkl : ∀ k ∈ kids i.rows i.at_, i.at_ < k ∧ k < i.rows.length := fun k hk => hf k i.at_ hk
    have hkn : (kids i.rows i.at_).length ≤ 1000 := by
      rw [kids_range]
      exact Nat.le_trans (List.length_filter_le _ _) (by simp; omega)
    have hsz := fo_le hp.ok (i.at_ + 1) i.at_ (Nat.lt_succ_self _) hlt
    rw [fo_cons hf hlt, fo_nil] at hsz
    have hsz2 : 1 + (fo i.rows (kids i.rows i.at_)).size + 0 ≤ i.rows.length := hsz
    have htl := txt_len _ _ (fo_okF hp.ok (kids i.rows i.at_))
    have hll := lets_len (ok_lets (k := i.at_) hp.ok)
    refine at_lcFM 2 [("_law_late", 3)] (List.range i.rows.length) (fun (k : Nat) => D.int (k : Int)) (fun k => decide ((rowAt i.rows k).2 = some (i.at_ : Int))) (fun k => D.str (strOf (fo i.rows [k]).txt)) (EI.eq (ei_rng1 (e_blt kd_lenL (a_cons (e_name 0 rfl) a_nil) B.len) B.range (by rw [List.length_map]; omega)) (by rw [List.length_map]; simp [ups])) (ctg_name 3 scRowText.nd (by decide) rfl) (fun _ _ => trivial) (by simp; omega)
      (fun j hj M' hM s H C cl fp => t_cmp (e_ix (e_ix (e_name 0 rfl) (e_name 3 rfl) (xd_lst (j := j) (by rw [List.length_map]; exact ixN_nat (List.mem_range.mp hj)) (by rw [List.getElem?_map, rows_get (List.mem_range.mp hj)]; rfl))) e_int (xd_tup (j := 1) rfl rfl)) (e_name 1 rfl) (cd_optEq (by exact hu)))
      (fun k hk0 hk1 M' hM s2 H2 C2 cl2 fp2 => EE.eq (e_call ih hr (a_cons (e_name 0 rfl) (a_cons (e_name 3 rfl) a_nil)) (⟨i.rows, k⟩ : TrI) ⟨⟨hp.ok, hp.len, List.mem_range.mp hk0⟩, by
        have hk : k ∈ kids i.rows i.at_ := by rw [kids_range]; exact List.mem_filter.mpr ⟨hk0, hk1⟩
        have h1 := fo_dep hf _ (fun j hj => (hkl j hj).2) k hk
        rw [fo_cons hf hlt, fo_nil] at hn
        have h2 : max (1 + (fo i.rows (kids i.rows i.at_)).dep) 0 ≤ n + 1 := hn
        show (fo i.rows [k]).dep ≤ n
        omega⟩ rfl) rfl) (blkOk_by rfl) scRowText.nd ?_
    rw [← kids_range]
    have hmap : ((kids i.rows i.at_).map fun k => D.str (strOf (fo i.rows [k]).txt)) = ((kids i.rows i.at_).map fun k => strOf (fo i.rows [k]).txt).map D.str := by simp
    have hjo : Txt.join "," ((kids i.rows i.at_).map fun k => strOf (fo i.rows [k]).txt) = strOf (fo i.rows (kids i.rows i.at_)).txt := by
      have := join_strs ((kids i.rows i.at_).map fun k => (fo i.rows [k]).txt)
      rw [List.map_map] at this
      rw [join_fo hf _ fun k hk => (hkl k hk).2] at this
      exact this
    have hsum : (((kids i.rows i.at_).map fun k => strOf (fo i.rows [k]).txt).map (·.length)).sum ≤ 29000 := by
      have h1 := len_sum ((kids i.rows i.at_).map fun k => (fo i.rows [k]).txt)
      rw [join_fo hf _ fun k hk => (hkl k hk).2, List.map_map] at h1
      have h2 : (((kids i.rows i.at_).map fun k => strOf (fo i.rows [k]).txt).map (·.length)) = (kids i.rows i.at_).map (List.length ∘ fun k => (fo i.rows [k]).txt) := by
        rw [List.map_map]; rfl
      rw [h2]
      omega
    have hcp : ∀ x ∈ (kids i.rows i.at_).map (fun k => strOf (fo i.rows [k]).txt), ∀ c ∈ tl x, c < 1114112 := fun x hx c hc => by
      obtain ⟨k, _, rfl⟩ := List.mem_map.mp hx
      have := txt_cp _ _ (fo_okF hp.ok [k]) c hc
      omega
    have hz0 : ∀ h : kids i.rows i.at_ ≠ [], (fo i.rows (kids i.rows i.at_)).size ≠ 0 := fun h => by
      obtain ⟨k, r, e⟩ := List.exists_cons_of_ne_nil h
      rw [e, fo_cons hf (hkl k (by rw [e]; simp)).2]
      show 1 + _ + _ ≠ 0
      omega
    have hlab : (if (rowAt i.rows i.at_).1 = [] then strOf [42] else strOf (rowAt i.rows i.at_).1) = strOf (lab (rowAt i.rows i.at_).1) := by
      unfold lab
      split <;> rfl
    have hll2 : (lab (rowAt i.rows i.at_).1).length ≤ 26 := by
      unfold lab
      split
      · simp
      · exact hll
    refine at_end (d := .str (strOf (lab (rowAt i.rows i.at_).1) ++ (if kids i.rows i.at_ = [] then strOf [] else strOf (91 :: ((fo i.rows (kids i.rows i.at_)).txt ++ [93]))))) (e_bin (e_if (p0 := !decide ((rowAt i.rows i.at_).1 = [])) (ET.eq (t_cmp (e_ix (e_ix (e_name 0 rfl) (e_name 1 rfl) (xd_lst (j := i.at_) (by rw [List.length_map]; exact ixN_nat hlt) (by rw [List.getElem?_map, rows_get hlt]; rfl))) e_int (xd_tup (j := 0) rfl rfl)) e_str cd_neS) ?c1) rfl (fun h => EE.eq (e_ix (e_ix (e_name 0 rfl) (e_name 1 rfl) (xd_lst (j := i.at_) (by rw [List.length_map]; exact ixN_nat hlt) (by rw [List.getElem?_map, rows_get hlt]; rfl))) e_int (xd_tup (j := 0) rfl rfl)) ?c2) fun h => EE.eq e_str ?c3)
      (e_if (p0 := !decide (kids i.rows i.at_ = [])) (ET.eq (t_cmp (EE.eq (e_name 2 rfl) (congrArg D.lst hmap)) (EE.eq (e_lst a_nil) rfl) (cd_neD hu (p := .list (((kids i.rows i.at_).map fun k => strOf (fo i.rows [k]).txt).map PyData.str)) (q := .list ([] : List PyData)) (by simp only [toPy, toPys_strs, Option.map_some]) (by simp only [toPy, toPys, Option.map_some]) (shaped_strs hcp) (by decide))) ?c4) rfl
        (fun h => EE.eq (e_bin (e_bin e_str (e_join (ts := (kids i.rows i.at_).map fun k => strOf (fo i.rows [k]).txt) ?c5 e_str (EE.eq (e_name 2 rfl) (congrArg D.lst hmap))) (bd_addS ?c6)) e_str (bd_addS ?c7)) ?c8) (fun h => EE.eq e_str ?c9)) (bd_addS ?c10)) ?c11 (.head _) kq
    case c1 =>
      congr 1
      rw [Bool.eq_iff_iff, decide_eq_true_iff, decide_eq_true_iff]
      exact ⟨fun h => congrArg tl h, fun h => by rw [h]; exact strOf_nil⟩
    case c2 =>
      rw [← hlab, if_neg (by simpa using h)]
    case c3 =>
      rw [← hlab, if_pos (by simpa using h)]; exact congrArg D.str star_str
    case c4 =>
      rw [show ([] : List PyData) = ([] : List Str).map PyData.str from rfl]
      simp only [PyData.eqv]
      rw [eqv_strs]
      congr 1
      rw [Bool.eq_iff_iff, decide_eq_true_iff, decide_eq_true_iff]
      simp
    case c5 =>
      have h1 : (("," : Str)).length = 1 := by decide +kernel
      have h2 : ((kids i.rows i.at_).map fun k => strOf (fo i.rows [k]).txt).length = (kids i.rows i.at_).length := List.length_map ..
      rw [h1, h2]
      omega
    case c6 =>
      rw [hjo]
      have : (("[" : Str)).length = 1 := by decide +kernel
      have h2 : (strOf (fo i.rows (kids i.rows i.at_)).txt).length = (fo i.rows (kids i.rows i.at_)).txt.length := rfl
      exact Nat.le_trans (show _ ≤ 100000 by omega) (by decide)
    case c7 =>
      rw [hjo, len_app]
      have : (("[" : Str)).length = 1 := by decide +kernel
      have : (("]" : Str)).length = 1 := by decide +kernel
      have h2 : (strOf (fo i.rows (kids i.rows i.at_)).txt).length = (fo i.rows (kids i.rows i.at_)).txt.length := rfl
      exact Nat.le_trans (show _ ≤ 100000 by omega) (by decide)
    case c8 =>
      rw [hjo, brack, if_neg (by simpa using h)]
    case c9 =>
      rw [if_pos (by simpa using h)]; exact congrArg D.str strOf_nil.symm
    case c10 =>
      have h1 : (strOf (lab (rowAt i.rows i.at_).1)).length = (lab (rowAt i.rows i.at_).1).length := rfl
      have h2 : (if kids i.rows i.at_ = [] then strOf [] else strOf (91 :: ((fo i.rows (kids i.rows i.at_)).txt ++ [93]))).length ≤ 2 + (fo i.rows (kids i.rows i.at_)).txt.length := by
        split
        · show 0 ≤ _; omega
        · show (91 :: ((fo i.rows (kids i.rows i.at_)).txt ++ [93])).length ≤ _
          simp; omega
      exact Nat.le_trans (show _ ≤ 100000 by omega) (by decide)
    case c11 =>
      show D.str _ = D.str (strOf (fo i.rows [i.at_]).txt)
      rw [fo_cons hf hlt, fo_nil]
      show _ = D.str (strOf (lab _ ++ ((if _ then [] else _) ++ (if (0 : Nat) = 0 then [] else _))))
      by_cases h : kids i.rows i.at_ = []
      · rw [if_pos h, h, fo_nil, strOf_app]
        simp [Fo.size]
      · rw [if_neg h, if_neg (hz0 h), strOf_app]
        simp
end
end Od

set_option Elab.async false
set_option linter.all false
set_option maxRecDepth 100000
set_option maxHeartbeats 4000000
/-! Od27: calls with starred arguments. -/
namespace Od
open PySem L2 StX
section
variable {X : Cx} {CX : CXT} {k i : Nat} {f C : Addr} {sp : Sp} {x : Str} {ex : Expr} {es : List Expr} {te : TE} {t : TA} {p sp_ pos : Pos} {E : L2.St → XK}
theorem pe_makeS2 (Mm : Mk X.K C f) (F : FnR X.prog X.w X.K X.mg X.base CX k f sp) (hr : Room (k + 1) X.A) (hg : Gl X x) (hm : X.mg x = some (.ref C)) (hx : ∀ σ, PassesAt CX X σ (E σ)) (ha : PA X (ex :: es) t) (hdb : (x == ("__debug__" : Str)) = false)
    (he : starEach (ex :: es) X.env = (false, eval ex X.env) :: starEach es X.env) (hst : (backTo pos (starEach es X.env)).any (·.1) = true) : PE X (.Call (.Name x p) (ex :: es) [] pos) (fun σ H Q => t σ H fun vs H1 => ∀ xa dx, H1 xa = none → H1 dx = none → dx ≠ xa → sp (V.ref xa :: vs) (upd (upd H1 dx (.own xa)) xa (.ins C dx [])) (fun v H2 => v = .non ∧ Q (.ref xa) H2) (E σ)) := by
  refine ⟨fun pins s σ H Q I h => ?_⟩
  refine wpAny_Call_Name_kw (ld_glob I hg hm ?_ hdb)
  refine PySem.W.callWith_S2 (h₀ := X.base) I.ok.mod.kin Mm.kp (thn (ha.run pos pins s σ H _ I h) fun us s1 ⟨vs, H1, I1, r, q⟩ => ⟨I1.kIn, ?_⟩) he hst
  exact run_makeRS Mm F hr (hx σ) I1 r q
theorem pe_makeS1 (Mm : Mk X.K C f) (F : FnR X.prog X.w X.K X.mg X.base CX k f sp) (hr : Room (k + 1) X.A) (hg : Gl X x) (hm : X.mg x = some (.ref C)) (hx : ∀ σ, PassesAt CX X σ (E σ)) (he : PE X ex te) (hdb : (x == ("__debug__" : Str)) = false)
    (hst : starEach [.Starred ex sp_] X.env = [(true, eval ex X.env)]) : PE X (.Call (.Name x p) [.Starred ex sp_] [] pos) (fun σ H Q => te σ H fun y H1 => ∃ a xs, y = V.ref a ∧ (SqT X.K H1 a xs ∨ SqL X.K H1 a xs) ∧ ∀ xa dx, H1 xa = none → H1 dx = none → dx ≠ xa → sp (V.ref xa :: xs) (upd (upd H1 dx (.own xa)) xa (.ins C dx [])) (fun v H2 => v = .non ∧ Q (.ref xa) H2) (E σ)) := by
  refine ⟨fun pins s σ H Q I h => ?_⟩
  refine wpAny_Call_Name_kw (ld_glob I hg hm ?_ hdb)
  refine PySem.W.callWith_S (h₀ := X.base) I.ok.mod.kin Mm.kp (thn (he.run pins s σ H _ I h) fun v s1 ⟨y, H1, I1, ry, a, xs, ey, hxs, q⟩ => ?_) hst
  subst ey
  obtain rfl : v = Value.ref a := ry
  exact star_any I1 hxs fun us s2 I2 rv => ⟨I2.kIn, run_makeRS Mm F hr (hx σ) I2 rv q⟩
theorem pe_callRS2 (F : FnR X.prog X.w X.K X.mg X.base CX k f sp) (hr : Room k X.A) (hk : PySem.W.keepIn X.K (.ref f) = true) (hg : Gl X x) (hm : X.mg x = some (.ref f)) (hx : ∀ σ, PassesAt CX X σ (E σ)) (ha : PA X (ex :: es) t) (hdb : (x == ("__debug__" : Str)) = false)
    (he : starEach (ex :: es) X.env = (false, eval ex X.env) :: starEach es X.env) (hst : (backTo pos (starEach es X.env)).any (·.1) = true) :
    PE X (.Call (.Name x p) (ex :: es) [] pos) (fun σ H Q => t σ H fun vs H1 => sp vs H1 Q (E σ)) := by
  refine ⟨fun pins s σ H Q I h => ?_⟩
  refine wpAny_Call_Name_kw (ld_glob I hg hm ?_ hdb)
  refine PySem.W.callWith_S2 (h₀ := X.base) I.ok.mod.kin hk (thn (ha.run pos pins s σ H _ I h) fun us s1 ⟨vs, H1, I1, r, q⟩ => ⟨I1.kIn, ?_⟩) he hst
  exact wpAny_call (run_fnRS F hr (hx σ) I1 r q)
end
section
variable {X : Cx} {M : Addr → Prop} {e : DE} {cs cs1 cs2 cs3 : Cs} {pos p pos' apos sp_ : Pos} {a b c ex o : Expr} {es : List Expr} {d y z : D} {ds gs args : List D} {n m cn : Str} {ns : List Str} {k j : Nat} {cz cz' : Cs} {x : Xc}
/-- a datum that stands for a row of values -/
inductive RowD : D → List D → Prop
  | lst (ds : List D) : RowD (.lst ds) ds
  | tup (ds : List D) : RowD (.tup ds) ds
theorem RowD.sq {H : Hp} {v : V} (h : RowD d ds) (r : R X.K X.mg M H v d) : ∃ a xs, v = V.ref a ∧ (SqT X.K H a xs ∨ SqL X.K H a xs) ∧ Rs X.K X.mg M H xs ds := by
  cases h with
  | lst =>
    obtain ⟨a, xs, rfl, _, ha, ra⟩ := r_lst r
    exact ⟨a, xs, rfl, .inr (.of ha), ra⟩
  | tup =>
    obtain ⟨a, xs, rfl, ha, ra⟩ := r_tup r
    exact ⟨a, xs, rfl, .inl ha, ra⟩
/-- *b in an argument list -/
theorem a_star (hrow : RowD d ds) (ha : EE X M e cs a d cs1) (hr : EA X M e cs1 es gs cs2) (hs : starEach (.Starred a sp_ :: es) X.env = (true, eval a X.env) :: starEach es X.env := by rfl) : EA X M e cs (.Starred a sp_ :: es) (ds ++ gs) cs2 where
  dm := hr.dm.trans ha.dm
  k := fun σ H Q S k => wa_of (pa_star pe_w pa_w hs) (ha.k σ H _ S fun v H1 S1 x1 r1 => by
    obtain ⟨ad, xs, rfl, hq, rs⟩ := hrow.sq r1
    exact ⟨ad, xs, rfl, hq, hr.k σ H1 _ S1 fun vs H2 S2 x2 r2 => k _ H2 S2 (x1.trans (by rw [← ha.dm]; exact x2)) ((S1.rs x2 rs).append r2)⟩)
theorem passN (σ : L2.St) : PassesAt (L2.CX X.prog X.w) X σ E0 := fun pins H s e s' I c => passL (X := X) pins σ H s e s' I c
/-- C(a, .., *b) -/
theorem e_maS2 (F : Ma X.prog X.w X.K X.mg X.base cn k ds (.ok ns gs)) (hr : Room (k + 1) X.A) (ha : EA X M e cs (a :: es) ds cs1) (hg : Gl X cn := by rfl) (hdb : (cn == ("__debug__" : Str)) = false := by decide)
    (he : starEach (a :: es) X.env = (false, eval a X.env) :: starEach es X.env := by rfl) (hst : (backTo pos (starEach es X.env)).any (·.1) = true := by rfl) : EE X M e cs (.Call (.Name cn p) (a :: es) [] pos) (.obj cn ns gs) cs1 where
  dm := ha.dm
  k := fun σ H Q S k => by
    obtain ⟨C, f, hm, hmk, F⟩ := F.ex
    exact we_of (pe_makeS2 (E := fun _ => E0) hmk F hr hg hm passN pa_w hdb he hst) (ha.k σ H _ S fun vs H1 S1 x1 r1 xa dx hx hdx hne => mak_use hm S1 r1 hx hdx hne fun v H' S2 x2 r2 => k v H' S2 (x1.trans (x2.mono (by simp))) r2)
theorem x_maS2 (F : Ma X.prog X.w X.K X.mg X.base cn k ds (.err x)) (hr : Room (k + 1) X.A) (ha : EA X M e cs (a :: es) ds cs1) (hg : Gl X cn := by rfl) (hdb : (cn == ("__debug__" : Str)) = false := by decide)
    (he : starEach (a :: es) X.env = (false, eval a X.env) :: starEach es X.env := by rfl) (hst : (backTo pos (starEach es X.env)).any (·.1) = true := by rfl) : EX X M e cs (.Call (.Name cn p) (a :: es) [] pos) x cs1 where
  dm := ha.dm
  k := fun σ H W Q tk S k => by
    obtain ⟨C, f, hm, hmk, F⟩ := F.ex
    exact we_of (pe_makeS2 (E := WE W) hmk F hr hg hm (passAt tk) pa_w hdb he hst) (ha.k σ H _ S fun vs H1 S1 x1 r1 xa dx hx hdx hne => mak_err hm S1 r1 hx hdx hne fun cls d H' S2 x2 r2 => k cls d H' S2 (x1.trans (x2.mono (by simp))) r2)
/-- C(*b) -/
theorem e_maS1 (F : Ma X.prog X.w X.K X.mg X.base cn k ds (.ok ns gs)) (hr : Room (k + 1) X.A) (hrow : RowD d ds) (ha : EE X M e cs a d cs1) (hg : Gl X cn := by rfl) (hdb : (cn == ("__debug__" : Str)) = false := by decide)
    (hst : starEach [.Starred a sp_] X.env = [(true, eval a X.env)] := by rfl) : EE X M e cs (.Call (.Name cn p) [.Starred a sp_] [] pos) (.obj cn ns gs) cs1 where
  dm := ha.dm
  k := fun σ H Q S k => by
    obtain ⟨C, f, hm, hmk, F⟩ := F.ex
    refine we_of (pe_makeS1 (E := fun _ => E0) hmk F hr hg hm passN pe_w hdb hst) (ha.k σ H _ S fun v H1 S1 x1 r1 => ?_)
    obtain ⟨ad, xs, rfl, hq, rs⟩ := hrow.sq r1
    exact ⟨ad, xs, rfl, hq, fun xa dx hx hdx hne => mak_use hm S1 rs hx hdx hne fun v H' S2 x2 r2 => k v H' S2 (x1.trans (x2.mono (by simp))) r2⟩
theorem x_maS1 (F : Ma X.prog X.w X.K X.mg X.base cn k ds (.err x)) (hr : Room (k + 1) X.A) (hrow : RowD d ds) (ha : EE X M e cs a d cs1) (hg : Gl X cn := by rfl) (hdb : (cn == ("__debug__" : Str)) = false := by decide)
    (hst : starEach [.Starred a sp_] X.env = [(true, eval a X.env)] := by rfl) : EX X M e cs (.Call (.Name cn p) [.Starred a sp_] [] pos) x cs1 where
  dm := ha.dm
  k := fun σ H W Q tk S k => by
    obtain ⟨C, f, hm, hmk, F⟩ := F.ex
    refine we_of (pe_makeS1 (E := WE W) hmk F hr hg hm (passAt tk) pe_w hdb hst) (ha.k σ H _ S fun v H1 S1 x1 r1 => ?_)
    obtain ⟨ad, xs, rfl, hq, rs⟩ := hrow.sq r1
    exact ⟨ad, xs, rfl, hq, fun xa dx hx hdx hne => mak_err hm S1 rs hx hdx hne fun cls d H' S2 x2 r2 => k cls d H' S2 (x1.trans (x2.mono (by simp))) r2⟩
end
end Od

set_option Elab.async false
set_option linter.all false
set_option maxRecDepth 100000
set_option maxHeartbeats 4000000
/-! Ox8: a method called by a keyword. -/
namespace Od
open PySem L2
/-- self by place, the other by name -/
def kg : List Value → List Value → List Value
  | [u], [v] => [u, v]
  | _, _ => []
def kgV : List V → List V → List V
  | [u], [v] => [u, v]
  | _, _ => []
theorem kg_rel {vs : List V} {us : List Value} {zs : List V} {ws : List Value} (h : Vals vs us) (h2 : Vals zs ws) : Vals (kgV vs zs) (kg us ws) := by
  cases h with
  | nil => exact .nil
  | cons r1 r2 =>
    cases r2 with
    | cons _ _ => exact .nil
    | nil =>
      cases h2 with
      | nil => exact .nil
      | cons q1 q2 =>
        cases q2 with
        | cons _ _ => exact .nil
        | nil => exact .cons r1 (.cons q1 .nil)
structure MthK (P : Program) (w : World) (K : PySem.W.Frag) (mg : Str → Option Value) (base : Heap) (c m kw : Str) (k : Nat) (sp : Sp) : Prop where
  ex : ∃ C f fd ps, mg c = some (.ref C) ∧ Cls K C ∧ Meth K C m f ∧ FnOk P w K mg base (L2.CX P w) k f fd ps sp ∧ KBinds K fd ps [kw] kg kgV
section
variable {X : Cx} {M : Addr → Prop} {e : DE} {cs cs1 cs2 : Cs} {pos p apos : Pos} {a o : Expr} {d x : D} {gs : List D} {ns : List Str} {n m cn : Str} {k : Nat}
theorem e_meK {kw : String} {kp : Pos} {pl : Sem Bool} (F : MthK X.prog X.w X.K X.mg X.base cn m (Str.ofString kw) k (outSp X.K X.mg [.obj cn ns gs, x] [] (.ok d) [])) (hr : Room k X.A) (ho : EE X M e cs o (.obj cn ns gs) cs1) (ha : EE X M e cs1 a x cs2) (hnm : m ∉ ns := by decide +kernel)
    (hall : (backToKw pos (keywordEach [⟨some kw, a, kp⟩] X.env)).all (·.1.isSome) = true := by rfl) (hks : (backToKw pos (keywordEach [⟨some kw, a, kp⟩] X.env)).filterMap (·.1) = [Str.ofString kw] := by rfl)
    (hpl : ((backTo pos (starEach [] X.env)).any (·.1) || (backToKw pos (keywordEach [⟨some kw, a, kp⟩] X.env)).any (·.1.isNone)) = false := by rfl)
    (ht : eval (.Call (.Attribute o m apos) [] [⟨some kw, a, kp⟩] pos) X.env = (do
      let ov ← eval o X.env
      standAt apos.atName
      let (f, first) ← holding [ov] (getMethod ov m pl)
      callWith pos f first (backTo pos (starEach [] X.env)) (backToKw pos (keywordEach [⟨some kw, a, kp⟩] X.env))) := by rfl) : EE X M e cs (.Call (.Attribute o m apos) [] [⟨some kw, a, kp⟩] pos) d cs2 where
  dm := ha.dm.trans ho.dm
  k := fun σ H Q S k => by
    obtain ⟨C, f, fd, ps, hm, hc, hmt, F, kb⟩ := F.ex
    have pe : PE X (.Call (.Attribute o m apos) [] [⟨some kw, a, kp⟩] pos) (fun σ H Q => wE X o σ H fun y H1 => ∃ ad dx fs, y = .ref ad ∧ H1 ad = some (.ins C dx fs) ∧ fs.lookup m = none ∧ tCons (wE X a) tNil σ H1 fun zs H2 => outSp X.K X.mg [.obj cn ns gs, x] [] (.ok d) [] (kgV [y] zs) H2 Q E0) := by
      refine ⟨fun pins s σ H Q I h => PySem.W.methodCall_KW (pl := pl) (thn (pe_w.run pins s σ H _ I h) fun u s1 ⟨y, H1, I1, rx, ad, dx, fs, ex', ea, l, q⟩ => ?_) ht⟩
      subst ex'
      obtain rfl : u = Value.ref ad := rx
      refine getmeth_ok I1 ea hc hmt l ?_
      refine PySem.W.callWith_KW0 (first := [.ref ad]) (h₀ := X.base) I1.ok.mod.kin hmt.kp hall (thn ((pk_cons pe_w pk_nil).run pos pins s1 σ H1 _ I1 q) fun ws s3 ⟨zs, H2, I3, rz, q2⟩ => ⟨I3.kIn, ?_⟩) hpl
      rw [hks]
      exact run_fnk (us := [.ref ad]) (vs := [.ref ad]) F hr kb passL I3 (.cons rfl .nil) rz q2
    refine we_of pe (ho.k σ H _ S fun v H1 S1 x1 r1 => ?_)
    obtain ⟨ad, C', dx, xs, rfl, _, hm', hob, hl, rs⟩ := r_obj r1
    rw [hm] at hm'; cases hm'
    refine ⟨ad, dx, _, rfl, hob, zip_lookup_none hnm, ha.k σ H1 _ S1 fun u H2 S2 x2 r2 => ?_⟩
    show outSp X.K X.mg [.obj cn ns gs, x] [] (.ok d) [] [.ref ad, u] H2 Q E0
    exact out_use S2 (.cons (S1.r x2 r1) (.cons r2 .nil)) sw0 fun v H' S3 x3 r3 => k v H' S3 (x1.trans (by rw [← ho.dm]; exact x2.trans (by rw [← ha.dm]; exact x3))) r3
end
end Od

set_option Elab.async false
set_option linter.all false
set_option maxRecDepth 100000
set_option maxHeartbeats 4000000
/-! Tr3: made_tree, parsed, Tree.parse. -/
namespace Od
open PySem L2 TL PySem.Spec
abbrev sParsed : Stmt := top 21
abbrev sMadeTree : Stmt := top 22
abbrev sTParse : Stmt := inClass sTree 3
local macro_rules
  | `(tactic| walk_at "bd") => `(tactic| first | exact bd_add | exact bd_sub | exact bd_mulR (by decide) | exact bd_mulL (by decide) | exact bd_mod (by decide) | exact bd_div (by decide))
local macro_rules
  | `(tactic| walk_at "le") => `(tactic| repeat (first | exact LeD.nil | apply LeD.drop | apply LeD.same))
abbrev badTx' : Xc := ⟨"InvalidText", ["code"], [.str "InvalidText"]⟩
def okT (rows : List Row) : Bool := okRows [] rows && !rows.isEmpty
theorem okT_iff {rows : List Row} : okT rows = true ↔ okRows [] rows = true ∧ rows ≠ [] := by
  unfold okT
  cases rows <;> simp
/-- the rows that a text is read as -/
def parseB (t : List Nat) : Option (List Row) := match mach t with
  | none => none
  | some rows => if okT rows = true ∧ (fo rows [0]).txt = t then some rows else none
def outT : Option (List Row) → Out
  | none => .err badTx'
  | some rows => .ok (treeO rows)
def outM (rows : List Row) : Out := if okT rows then .ok (treeO rows) else .err badTx'
abbrev m0 : Mst := ⟨[], [none], []⟩
theorem step_len {s s' : Mst} {c : Nat} (h : step s c = some s') (hp : 0 < s.ps.length) : s'.rows.length ≤ s.rows.length + 1 ∧ s'.sg.length ≤ s.sg.length + 1 ∧ 0 < s'.ps.length ∧ s'.ps.length ≤ s.ps.length + 1 ∧ (s'.rows.length + s'.sg.length ≤ s.rows.length + s.sg.length + 1) := by
  unfold step at h
  have hf : (flush s).rows.length ≤ s.rows.length + 1 ∧ (flush s).ps = s.ps ∧ (flush s).sg = [] ∧ (flush s).rows.length ≤ s.rows.length + s.sg.length := by
    unfold flush
    by_cases h0 : s.sg = []
    · rw [if_pos h0]; exact ⟨by omega, rfl, h0, by omega⟩
    · rw [if_neg h0]
      have := List.length_pos_iff.mpr h0
      exact ⟨by simp, rfl, rfl, by simp; omega⟩
  obtain ⟨f1, f2, f3, f4⟩ := hf
  split at h
  · dsimp only at h
    split at h
    · split at h
      · cases h
      · cases h
        simp only [List.length_append, List.length_singleton, List.length_nil, f2]
        omega
    · split at h
      · next h2 =>
        cases h
        rw [f2] at h2 ⊢
        simp only [List.length_dropLast, List.length_nil]
        omega
      · cases h
        simp only [List.length_nil, f2]
        omega
  · cases h
    simp only [List.length_append, List.length_singleton]
    omega
theorem run_len : ∀ (t : List Nat) (s s' : Mst), 0 < s.ps.length → runM s t = some s' → s'.rows.length + s'.sg.length ≤ s.rows.length + s.sg.length + t.length ∧ 0 < s'.ps.length
  | [], s, s', hp, h => by cases h; exact ⟨by simp, hp⟩
  | c :: t, s, s', hp, h => by
    have h' : (step s c).bind (fun s => runM s t) = some s' := h
    cases e : step s c with
    | none => rw [e] at h'; cases h'
    | some s1 =>
      rw [e] at h'
      obtain ⟨_, _, h3, _, h5⟩ := step_len e hp
      obtain ⟨i1, i2⟩ := run_len t s1 s' h3 h'
      simp only [List.length_cons]
      exact ⟨by omega, i2⟩
theorem step_ps {s s' : Mst} {c : Nat} (h : step s c = some s') (hp : s.ps.length ≤ 300) : s'.ps.length ≤ 300 := by
  have hf : (flush s).ps = s.ps := by
    unfold flush
    split <;> rfl
  unfold step at h
  split at h
  · dsimp only at h
    split at h
    · split at h
      · cases h
      · next h2 =>
        cases h
        simp only [List.length_append, List.length_singleton]
        omega
    · split at h
      · cases h
        simp only [List.length_dropLast, hf]
        omega
      · cases h
        rw [hf]; exact hp
  · cases h
    exact hp
theorem run_ps : ∀ (t : List Nat) (s s' : Mst), s.ps.length ≤ 300 → runM s t = some s' → s'.ps.length ≤ 300
  | [], s, s', hp, h => by cases h; exact hp
  | c :: t, s, s', hp, h => by
    have h' : (step s c).bind (fun s => runM s t) = some s' := h
    cases e : step s c with
    | none => rw [e] at h'; cases h'
    | some s1 =>
      rw [e] at h'
      exact run_ps t s1 s' (step_ps e hp) h'
theorem flush_sg (s : Mst) : (flush s).sg = [] ∧ (flush s).ps = s.ps := by
  unfold flush
  by_cases h : s.sg = []
  · rw [if_pos h]; exact ⟨h, rfl⟩
  · rw [if_neg h]; exact ⟨rfl, rfl⟩
theorem ixN_last {n : Nat} (h : 0 < n) : ixN n (-1) = some (n - 1) := by
  unfold ixN
  simp
  omega
theorem run_snoc (t : List Nat) (c : Nat) (s : Mst) : runM s (t ++ [c]) = (runM s t).bind fun s => step s c := by
  rw [runM_app]
  congr 1
  funext s'
  show (step s' c).bind some = _
  cases step s' c <;> rfl
section
variable {P : Program} {w : World} {K : PySem.W.Frag} {mg : Str → Option Value} {base : Heap}
theorem scMadeTree : FnScope ["rows", "e"] ["rows"] (defScope sMadeTree) := ⟨rfl, rfl, rfl, by decide +kernel, rfl, by decide +kernel, by decide +kernel⟩
theorem scParsed : FnScope ["text", "rows", "parents", "signs", "sign", "found"] ["text"] (defScope sParsed) := ⟨rfl, rfl, rfl, by decide +kernel, rfl, by decide +kernel, by decide +kernel⟩
theorem scTParse : FnScope ["text"] ["text"] (defScope sTParse) := ⟨rfl, rfl, rfl, by decide +kernel, rfl, by decide +kernel, by decide +kernel⟩
/-- right rows -/
theorem ok_madeTree {f : Addr} {fd : FuncData} (F : Fun K "made_tree" "made_tree" sMadeTree f fd) (hm : mg "made_tree" = some (.ref f)) (hb : Binds K fd ["rows"] []) (MK : MkT P w K mg base 6) : ∀ rows : List Row, okT rows = true → rows.length ≤ 1000 → Fn P w K mg base "made_tree" 8 [rowsD rows] [] (.ok (treeO rows)) [] := fun rows h hl => by
  obtain ⟨h1, h2⟩ := okT_iff.mp h
  refine fn_of' F hm scMadeTree hb (k := 7) fun cdv A outer s H0 E M Q hr hM kq => ?_
  have MK' := MK.at rows ⟨h1, h2, hl⟩
  refine at_tryret (e_maS1 MK' hr (.lst _) (e_name 0 rfl)) fun σ H v S x r => ?_
  exact kq v H S.mt (x _ (.head _)) (by simp) r
theorem ok_parsed {f XC : Addr} {fd : FuncData} {n k : Nat} (F : Fun K "parsed" "parsed" sParsed f fd) (hm : mg "parsed" = some (.ref f)) (hb : Binds K fd ["text"] []) (B : Blt mg) (hk : 8 ≤ k) (hmo : ∃ u, mg "MOST_OPEN" = some u ∧ RelV (.int 300) u)
    (TT : Mth P w K mg base "Tree" "text" k (puSp K mg (fun rows : List Row => okRows [] rows = true ∧ rows ≠ [] ∧ rows.length ≤ 1000 ∧ (fo rows [0]).dep ≤ n) (fun rows => [treeO rows]) (fun rows => .str (strOf (fo rows [0]).txt)))) (XE : Ox.Err0 P w K mg "InvalidText" "InvalidText" XC)
    (s0 : Str) (hs : s0.length ≤ 900) (MD : ∀ rows, mach (tl s0) = some rows → Fn P w K mg base "made_tree" k [rowsD rows] [] (outM rows) []) (hdep : ∀ rows, mach (tl s0) = some rows → okT rows = true → (fo rows [0]).dep ≤ n) : Fn P w K mg base "parsed" (k + 1) [.str s0] [] (outT (parseB (tl s0))) [] := by
  refine fn_of' F hm scParsed hb (k := k) fun cdv A outer s H0 E M Q hr hM kq => ?_
  have z : ∀ n : Nat, n ≤ 100000 → n ≤ sizeLine := fun n h => Nat.le_trans h (by decide)
  have hs2 : s0.length = (tl s0).length := len_tl s0
  have hr8 : Room 8 _ := hr.mono hk
  have hdot : s0 ++ ("." : Str) = strOf (tl s0 ++ [46]) := by
    rw [show (("." : Str)) = strOf [46] by decide +kernel, ← strOf_app, strOf_tl]
  refine at_if (b0 := false) (cs1 := []) (t_not (k0 := true) (t_val (e_blt (kd_isi (t := "str") (n := "str") (b := true) rfl (by decide +kernel)) (a_cons (e_name 0 rfl) (a_cons (e_gty (t := "str") B.str) a_nil)) B.isinstance))) (fun h => by cases h) (fun _ => at_nil ?_)
  refine at_parLL 1 2 3 (ds := []) (ds2 := [.non]) (y := .str (strOf [])) a_nil (by simp) (fun q nq => a_cons e_non a_nil) (by simp) (fun q q2 nq nq2 => EE.eq e_str (congrArg D.str strOf_nil.symm)) (fun q q2 nq nq2 => ?_) (fun ta ha => ps_par3 rfl scParsed.nd rfl rfl rfl (by decide) (by decide) (by decide) rfl rfl rfl ha rfl)
  obtain ⟨T, hT⟩ : ∃ T, T = tl s0 ++ [46] := ⟨_, rfl⟩
  have hTl : T.length ≤ 901 := by rw [hT, List.length_append, List.length_singleton]; omega
  have noneK : runM m0 T = none → OutK K mg M [] H0 [] Q E (.err badTx') := fun h => by
    have : parseB (tl s0) = none := by
      unfold parseB mach
      rw [← hT, h]; rfl
    rw [this] at kq
    exact kq
  refine at_for (α := fun _ => Mst) (ds := T.map fun c => D.str (sg c)) (fun i g => runM m0 (T.take i) = some g) (fun _ g => [some (.str s0), some (.ref q), some (.ref q2), some (.str (strOf g.sg)), none, none]) (fun _ g => [(q2, .lst (g.ps.map optD)), (q, .lst (g.rows.map Row.d))])
    (EI.eq (ei_str (e_bin (e_name 0 rfl) e_str (bd_addS (z _ (by have : (("." : Str)).length = 1 := by decide +kernel
                                                                 omega))))) (by rw [hdot, signs_tl, hT]; show ((tl s0 ++ [46]).map sg).map D.str = _; simp)) (ltg_name 4 scParsed.nd) (fun _ _ => trivial) m0 rfl rfl rfl (fun _ _ _ => rfl) (fun i d g H1 hd hg => ?_) fun g hg => ?_
  · obtain ⟨c, hc, rfl⟩ : ∃ c, T[i]? = some c ∧ d = .str (sg c) := by
      rw [List.getElem?_map] at hd
      cases h : T[i]? with
      | none => rw [h] at hd; cases hd
      | some c => rw [h] at hd; exact ⟨c, rfl, (Option.some.inj hd).symm⟩
    have hi : i < T.length := by
      cases Nat.lt_or_ge i T.length with
      | inl h => exact h
      | inr h => rw [List.getElem?_eq_none h] at hc; cases hc
    have htk : T.take (i + 1) = T.take i ++ [c] := by rw [List.take_add_one, hc]; rfl
    have hst : runM m0 (T.take (i + 1)) = step g c := by rw [htk, run_snoc, hg]; rfl
    obtain ⟨g1l, g1p⟩ := run_len _ _ _ (by decide) hg
    have g1l' : g.rows.length + g.sg.length ≤ 901 := by
      have : (T.take i).length ≤ 901 := by rw [List.length_take]; omega
      have h0 : m0.rows.length + m0.sg.length = 0 := rfl
      omega
    have hpl := run_ps _ _ _ (by decide) hg
    have badK : step g c = none → OutK K mg M [] H0 [] Q E (.err badTx') := fun h => noneK (by
      have e : T = T.take (i + 1) ++ T.drop (i + 1) := (List.take_append_drop ..).symm
      rw [e, runM_app, hst, h]; rfl)
    have goon : ∀ g2, step g c = some g2 → At (cxOf (L2.CX P w) P w K mg base ["text", "rows", "parents", "signs", "sign", "found"] "parsed" (defScope sParsed) f cdv A outer s H0 E) (fun b => (M b ∨ b = q) ∨ b = q2) [some (.str s0), some (.ref q), some (.ref q2), some (.str (strOf g2.sg)), some (.str (sg c)), none] [(q2, .lst (g2.ps.map optD)), (q, .lst (g2.rows.map Row.d))] (([q2, q], H1) :: [(dom [], H0)]) (Inv' (cxOf (L2.CX P w) P w K mg base ["text", "rows", "parents", "signs", "sign", "found"] "parsed" (defScope sParsed) f cdv A outer s H0 E) (fun b => (M b ∨ b = q) ∨ b = q2) (([q2, q], H1) :: [(dom [], H0)]) (fun g => runM m0 (T.take (i + 1)) = some g) (fun g => [some (.str s0), some (.ref q), some (.ref q2), some (.str (strOf g.sg)), none, none]) (fun g => [(q2, .lst (g.ps.map optD)), (q, .lst (g.rows.map Row.d))])) := fun g2 h2 =>
      at_go (at_inv (e := [some (.str s0), some (.ref q), some (.ref q2), some (.str (strOf g2.sg)), none, none]) g2 (hst.trans h2) rfl rfl) (by walk_at "le") rfl
    obtain ⟨u300, mo1, mo2⟩ := hmo
    have hsp : ((tl ("[],." : Str))) = [91, 93, 44, 46] ∨ True := .inr trivial
    have hin : decide (c ∈ ("[],." : Str).cps.toList) = decide (c ∈ [91, 93, 44, 46]) := by
      have e : ("[],." : Str).cps.toList = [91, 93, 44, 46] ∨ ("[],." : Str).cps.toList = [91, 93, 44, 46] := .inl (by decide +kernel)
      rw [e.elim id id]
    have hsg : ∀ k : Nat, decide (sg c = strOf [k]) = decide (c = k) := fun k => by
      rw [Bool.eq_iff_iff, decide_eq_true_iff, decide_eq_true_iff]
      exact ⟨fun h => by
        have h2 : [c] = [k] := congrArg tl h
        simpa using h2, fun h => by rw [h]; rfl⟩
    have hsg0 : ∀ k : Nat, ∀ s : Str, s = strOf [k] → decide (sg c = s) = decide (c = k) := fun k s h => by rw [h]; exact hsg k
    have hr2 : Room 2 _ := hr.mono (show 2 ≤ k by omega)
    obtain ⟨fs, fp⟩ := flush_sg g
    have hmin : ∀ {e : DE}, True := trivial
    obtain ⟨g1, hg1⟩ : ∃ g1, g1 = (if c ∈ [91, 93, 44, 46] then flush g else ⟨g.rows, g.ps, g.sg ++ [c]⟩) := ⟨_, rfl⟩
    have hg1l : g1.rows.length ≤ 1000 ∧ g1.ps = g.ps := by
      rw [hg1]
      split
      · refine ⟨?_, fp⟩
        unfold flush
        split
        · omega
        · simp; omega
      · exact ⟨by show g.rows.length ≤ 1000; omega, rfl⟩
    have hlast : ∀ x, g.ps.getLast? = some x → (g.ps.map optD)[g.ps.length - 1]? = some (optD x) := fun x hx => by
      rw [List.getElem?_map, ← List.getLast?_eq_getElem?, hx]; rfl
    obtain ⟨lp, hlp⟩ : ∃ x, g.ps.getLast? = some x := by
      cases h : g.ps.getLast? with
      | none => rw [List.getLast?_eq_none_iff] at h; rw [h] at g1p; cases g1p
      | some x => exact ⟨x, rfl⟩
    have hlP : lastP g.ps = lp := by unfold lastP; rw [hlp]; rfl
    refine at_ifJ (b0 := decide (c ∈ [91, 93, 44, 46])) [some (.str s0), some (.ref q), some (.ref q2), some (.str (strOf g1.sg)), some (.str (sg c)), none] [(q2, .lst (g1.ps.map optD)), (q, .lst (g1.rows.map Row.d))] (ET.eq (t_cmp (e_name 4 rfl) e_str cd_inC) hin) (fun h kk => ?_) (fun h kk => ?_) ?_
    · have hc4 : c ∈ [91, 93, 44, 46] := of_decide_eq_true h
      rw [if_pos hc4] at hg1
      refine at_ifJ (b0 := !decide (g.sg = [])) [some (.str s0), some (.ref q), some (.ref q2), some (.str (strOf g.sg)), some (.str (sg c)), none] [(q2, .lst (g1.ps.map optD)), (q, .lst (g1.rows.map Row.d))] (ET.eq (t_cmp (e_name 3 rfl) e_str cd_neS) (by
        congr 1
        rw [Bool.eq_iff_iff, decide_eq_true_iff, decide_eq_true_iff]
        exact ⟨fun h => congrArg tl h, fun h => by rw [h]; exact strOf_nil⟩)) (fun h2 k2 => ?_) (fun h2 k2 => ?_) ?_
      · have hne : g.sg ≠ [] := by simpa using h2
        have hf : flush g = ⟨g.rows ++ [(un g.sg, lp)], g.ps, []⟩ := by unfold flush; rw [if_neg hne, hlP]
        rw [hf] at hg1
        refine at_expr (cs1 := [(q2, .lst (g.ps.map optD)), (q, .lst (g.rows.map Row.d ++ [Row.d (un g.sg, lp)]))]) (e_app (e_name 1 rfl) ⟨_, .tail _ (.head _)⟩ (e_tup (a_cons (e_if (p0 := decide (g.sg = [42])) (ET.eq (t_cmp (e_name 3 rfl) e_str cd_eqS) (by
            rw [Bool.eq_iff_iff, decide_eq_true_iff, decide_eq_true_iff]
            exact ⟨fun h => congrArg tl (h.trans star_str), fun h => by rw [h]; exact star_str.symm⟩)) (by rfl) (fun h3 => EE.eq (y := .str (strOf (un g.sg))) e_str (by
              have h4 : g.sg = [42] := of_decide_eq_true h3
              rw [show un g.sg = [] by unfold un; rw [if_pos h4]]; exact congrArg D.str strOf_nil.symm)) (fun h3 => EE.eq (e_name 3 rfl) (by
              have h4 : ¬ g.sg = [42] := of_decide_eq_false h3
              rw [show un g.sg = g.sg by unfold un; rw [if_neg h4]]))) (a_cons (e_ixc (i := -1) (e_name 2 rfl) (e_un e_int ud_neg) (.head _) (j := g.ps.length - 1) (by rw [List.length_map]; exact ixN_last g1p) (hlast lp hlp)) a_nil))) (.there .here) (by rw [List.length_map]; omega)) (at_nil ?_)
        refine at_eqC k2 ?_
        rw [hg1]
        simp
      · have hne : g.sg = [] := by simpa using h2
        have hf : flush g = g := by unfold flush; rw [if_pos hne]
        rw [hf] at hg1
        refine at_nil (at_eqC k2 ?_)
        rw [hg1]
      · refine at_set 3 (d := .str (strOf [])) (EE.eq e_str (congrArg D.str strOf_nil.symm)) (at_nil ?_) scParsed.nd
        refine at_eqE kk ?_
        rw [hg1, fs]; rfl
    · have hc4 : c ∉ [91, 93, 44, 46] := of_decide_eq_false h
      rw [if_neg hc4] at hg1
      refine at_augS (s := strOf g.sg) (t := sg c) 3 rfl (e_name 4 rfl) (z _ (by show g.sg.length + 1 ≤ 100000; omega)) (at_nil ?_) scParsed.nd
      refine at_eqE (at_eqC kk ?_) ?_
      · rw [hg1]
      · rw [hg1]
        rw [show strOf (Mst.mk g.rows g.ps (g.sg ++ [c])).sg = strOf g.sg ++ strOf [c] from (strOf_app ..).symm]
        rfl
    -- the brackets
    have hps1 : g1.ps.length ≤ 300 ∧ 0 < g1.ps.length := by rw [hg1l.2]; exact ⟨hpl, g1p⟩
    have st1 : ∀ {x : Option Mst}, step g c = (if c = 91 then (if g1.ps.length + 1 > 300 then none else some ⟨g1.rows, g1.ps ++ [some ((g1.rows.length : Int) - 1)], g1.sg⟩) else if c = 93 ∧ 1 < g1.ps.length then some ⟨g1.rows, g1.ps.dropLast, g1.sg⟩ else some g1) := fun {x} => by
      unfold step
      by_cases hc4 : c ∈ [91, 93, 44, 46]
      · rw [if_pos hc4] at hg1 ⊢
        rw [hg1]
        dsimp only
        have e : flush g = ⟨(flush g).rows, (flush g).ps, []⟩ := by
          revert fs
          cases flush g with
          | mk a b c =>
            intro fs
            cases fs; rfl
        rw [e]
      · rw [if_neg hc4] at hg1 ⊢
        have n1 : c ≠ 91 := fun z => hc4 (by rw [z]; decide)
        have n2 : c ≠ 93 := fun z => hc4 (by rw [z]; decide)
        rw [if_neg n1, if_neg fun z => n2 z.1, hg1]
    have st1 := @st1 none
    have hm3 : ∀ s : Str, ∀ k : Nat, s = strOf [k] → decide (sg c = s) = decide (c = k) := fun s k h => by rw [h]; exact hsg k
    have app : EE (cxOf (L2.CX P w) P w K mg base ["text", "rows", "parents", "signs", "sign", "found"] "parsed" (defScope sParsed) f cdv A outer s H0 E) (fun b => (M b ∨ b = q) ∨ b = q2) [some (.str s0), some (.ref q), some (.ref q2), some (.str (strOf g1.sg)), some (.str (sg c)), none] [(q2, .lst (g1.ps.map optD)), (q, .lst (g1.rows.map Row.d))] (.Name "text" ⟨0, 0, 0, 0⟩) (.str s0) [(q2, .lst (g1.ps.map optD)), (q, .lst (g1.rows.map Row.d))] := e_name 0 rfl
    by_cases hb : c = 91 ∧ g1.ps.length + 1 > 300
    · refine at_if (b0 := true) (cs1 := [(q2, .lst (g1.ps.map optD)), (q, .lst (g1.rows.map Row.d))]) (ET.eq (t_cmp (e_name 4 rfl) e_str cd_eqS) ((hm3 _ 91 (ext_tl (by decide +kernel))).trans (decide_eq_true hb.1))) (fun _ => ?_) (fun h => by cases h)
      rw [if_pos hb.1, if_pos hb.2] at st1
      refine at_expr (cs1 := [(q2, .lst (g1.ps.map optD ++ [.int ((g1.rows.length : Int) - 1)])), (q, .lst (g1.rows.map Row.d))]) (e_app (e_name 2 rfl) ⟨_, .head _⟩ (EE.eq (e_bin (e_lenc (e_name 1 rfl) (.tail _ (.head _)) B.len) e_int bd_sub) (by rw [List.length_map])) .here (by rw [List.length_map]; omega)) ?_
      refine at_if (b0 := true) (cs1 := [(q2, .lst (g1.ps.map optD ++ [.int ((g1.rows.length : Int) - 1)])), (q, .lst (g1.rows.map Row.d))]) (ET.eq (t_cmp (e_lenc (e_name 2 rfl) (.head _) B.len) (e_gint mo1 mo2) cd_gt) (by
        rw [List.length_append, List.length_map, List.length_singleton, decide_eq_true_iff]
        have := hb.2
        omega)) (fun h2 => ?_) (fun h2 => by cases h2)
      exact at_raise0G (c2 := []) XE hr2 (.tail _ (.head _)) (fun a h => .inl (.inl h)) (by simp) (by simp) (badK st1)
    refine at_ifJ (b0 := decide (c = 91)) [some (.str s0), some (.ref q), some (.ref q2), some (.str (strOf g1.sg)), some (.str (sg c)), none] [(q2, .lst ((if c = 91 then g1.ps ++ [some ((g1.rows.length : Int) - 1)] else g1.ps).map optD)), (q, .lst (g1.rows.map Row.d))] (ET.eq (t_cmp (e_name 4 rfl) e_str cd_eqS) (hm3 _ 91 (ext_tl (by decide +kernel)))) (fun h kk => ?_) (fun h kk => ?_) ?_
    · have h91 : c = 91 := of_decide_eq_true h
      rw [if_pos h91] at kk
      refine at_expr (cs1 := [(q2, .lst (g1.ps.map optD ++ [.int ((g1.rows.length : Int) - 1)])), (q, .lst (g1.rows.map Row.d))]) (e_app (e_name 2 rfl) ⟨_, .head _⟩ (EE.eq (e_bin (e_lenc (e_name 1 rfl) (.tail _ (.head _)) B.len) e_int bd_sub) (by rw [List.length_map])) .here (by rw [List.length_map]; omega)) ?_
      refine at_if (b0 := false) (cs1 := [(q2, .lst (g1.ps.map optD ++ [.int ((g1.rows.length : Int) - 1)])), (q, .lst (g1.rows.map Row.d))]) (ET.eq (t_cmp (e_lenc (e_name 2 rfl) (.head _) B.len) (e_gint mo1 mo2) cd_gt) (by
        rw [List.length_append, List.length_map, List.length_singleton, decide_eq_false_iff_not]
        have := fun h => hb ⟨h91, h⟩
        omega)) (fun h2 => by cases h2) (fun h2 => at_nil (at_nil ?_))
      refine at_eqC kk ?_
      simp [optD]
    · rw [if_neg (of_decide_eq_false h)] at kk
      exact at_nil kk
    by_cases h91 : c = 91
    · rw [if_pos h91, if_neg fun h => hb ⟨h91, h⟩] at st1
      rw [if_pos h91]
      refine at_if (b0 := false) (cs1 := [(q2, .lst ((g1.ps ++ [some ((g1.rows.length : Int) - 1)]).map optD)), (q, .lst (g1.rows.map Row.d))]) (ET.eq (t_ew (t_and (p0 := false) (q0 := false) (ET.eq (t_cmp (e_name 4 rfl) e_str cd_eqS) ((hm3 _ 93 (ext_tl (by decide +kernel))).trans (by rw [h91]; rfl))) fun h => by cases h)) rfl) (fun h => by cases h) (fun _ => at_nil (at_nil ?_))
      exact goon _ st1
    · rw [if_neg h91] at st1 ⊢
      by_cases h93 : c = 93 ∧ 1 < g1.ps.length
      · rw [if_pos h93] at st1
        obtain ⟨p0, hp0⟩ : ∃ p, g1.ps = g1.ps.dropLast ++ [p] := by
          have hne : g1.ps ≠ [] := List.length_pos_iff.mp hps1.2
          exact ⟨g1.ps.getLast hne, (List.dropLast_concat_getLast hne).symm⟩
        refine at_if (b0 := true) (cs1 := [(q2, .lst (g1.ps.map optD)), (q, .lst (g1.rows.map Row.d))]) (ET.eq (t_ew (t_and (p0 := true) (q0 := true) (ET.eq (t_cmp (e_name 4 rfl) e_str cd_eqS) ((hm3 _ 93 (ext_tl (by decide +kernel))).trans (by rw [h93.1]; rfl))) fun h => t_and1 (ET.eq (t_cmp (e_lenc (e_name 2 rfl) (.head _) B.len) e_int cd_gt) (by
          rw [List.length_map, decide_eq_true_iff]
          have := h93.2
          omega)))) rfl) (fun _ => ?_) (fun h => by cases h)
        have ep : g1.ps.map optD = g1.ps.dropLast.map optD ++ [optD p0] := (congrArg (List.map optD) hp0).trans (by simp)
        refine at_eqC (cs2 := [(q2, .lst (g1.ps.dropLast.map optD ++ [optD p0])), (q, .lst (g1.rows.map Row.d))]) ?_ (by rw [ep])
        refine at_expr (cs1 := [(q2, .lst (g1.ps.dropLast.map optD)), (q, .lst (g1.rows.map Row.d))]) (e_pop (e_name 2 rfl) .here) (at_nil (at_nil ?_))
        exact goon _ st1
      · rw [if_neg h93] at st1
        refine at_if (b0 := false) (cs1 := [(q2, .lst (g1.ps.map optD)), (q, .lst (g1.rows.map Row.d))]) (ET.eq (t_ew (t_and (p0 := decide (c = 93)) (q0 := decide (1 < g1.ps.length)) (ET.eq (t_cmp (e_name 4 rfl) e_str cd_eqS) (hm3 _ 93 (ext_tl (by decide +kernel)))) fun h => t_and1 (ET.eq (t_cmp (e_lenc (e_name 2 rfl) (.head _) B.len) e_int cd_gt) (by
          rw [List.length_map, Bool.eq_iff_iff, decide_eq_true_iff, decide_eq_true_iff]
          omega)))) (by
            rw [← Bool.decide_and, decide_eq_false_iff_not]; exact h93)) (fun h => by cases h) (fun _ => at_nil (at_nil ?_))
        exact goon _ st1
  · have hmach : mach (tl s0) = some g.rows := by
      unfold mach
      rw [← hT]
      have e : T.take (T.map fun c => D.str (sg c)).length = T := by rw [List.length_map, List.take_length]
      rw [e] at hg
      rw [hg]; rfl
    obtain ⟨gl, _⟩ := run_len _ _ _ (by decide) hg
    have hrl : g.rows.length ≤ 1000 := by
      have : (T.take (T.map fun c => D.str (sg c)).length).length ≤ 901 := by rw [List.length_take]; omega
      have h0 : m0.rows.length + m0.sg.length = 0 := rfl
      omega
    have MDr := MD g.rows hmach
    refine at_pure 2 rfl nq2 (at_pure 1 rfl nq ?_)
    cases hok : okT g.rows with
    | false =>
      have : parseB (tl s0) = none := by
        unfold parseB
        rw [hmach]
        show (if okT g.rows = true ∧ _ then _ else _) = _
        rw [if_neg fun z => by rw [hok] at z; cases z.1]
      rw [this] at kq
      unfold outM at MDr
      rw [hok] at MDr
      exact at_xsetG (c2 := []) (cs1 := []) (x_fn MDr (hr.mono (by omega)) (a_cons (e_name 1 rfl) a_nil) sw0) (.head _) (fun a h => h) (by simp) (by simp) kq 5 scParsed.nd
    | true =>
      obtain ⟨o1, o2⟩ := okT_iff.mp hok
      unfold outM at MDr
      rw [hok] at MDr
      refine at_set 5 (d := treeO g.rows) (cs1 := []) (e_fn MDr (hr.mono (by omega)) (a_cons (e_name 1 rfl) a_nil) sw0) ?_ scParsed.nd
      have hres : parseB (tl s0) = if (fo g.rows [0]).txt = tl s0 then some g.rows else none := by
        unfold parseB
        rw [hmach]
        show (if okT g.rows = true ∧ _ then _ else _) = _
        by_cases h : (fo g.rows [0]).txt = tl s0
        · rw [if_pos ⟨hok, h⟩, if_pos h]
        · rw [if_neg fun z => h z.2, if_neg h]
      refine at_if (b0 := !decide ((fo g.rows [0]).txt = tl s0)) (cs1 := []) (ET.eq (t_cmp (EE.eq (e_meth0 TT hr (e_name 5 rfl) (by decide +kernel) g.rows ⟨o1, o2, hrl, hdep g.rows hmach hok⟩ rfl) rfl) (e_name 0 rfl) cd_neS) (by
        congr 1
        rw [Bool.eq_iff_iff, decide_eq_true_iff, decide_eq_true_iff]
        exact ⟨fun h => congrArg tl h, fun h => by rw [h, strOf_tl]⟩)) (fun h => ?_) (fun h => at_nil ?_)
      · have hn : ¬ (fo g.rows [0]).txt = tl s0 := by simpa using h
        rw [hres, if_neg hn] at kq
        exact at_raise0G (c2 := []) XE (hr.mono (by omega)) (.head _) (fun a h => h) (by simp) (by simp) kq
      · have hy : (fo g.rows [0]).txt = tl s0 := by simpa using h
        rw [hres, if_pos hy] at kq
        exact at_end (e_name 5 rfl) rfl (.head _) kq
/-- the text of a right tree -/
theorem parse_txt {f : Fo} (h1 : one? f) (h2 : okF [] f) (h3 : f.dep ≤ 299) : mach f.txt = some (f.flat 0 none) ∧ okT (f.flat 0 none) = true ∧ fo (f.flat 0 none) [0] = f ∧ parseB f.txt = some (f.flat 0 none) := by
  cases f with
  | nil => exact h1.elim
  | cons l ks rs =>
    cases rs with
    | cons _ _ _ => exact h1.elim
    | nil =>
      have a1 := mach_txt (okF_al _ _ h2) h3
      have a2 : okT ((Fo.cons l ks .nil).flat 0 none) = true := okT_iff.mpr ⟨okF_tree h2, by simp [Fo.flat]⟩
      have a3 := fo_flat h1 (ok_fwd (okF_tree h2))
      refine ⟨a1, a2, a3, ?_⟩
      unfold parseB
      rw [a1]
      show (if okT _ = true ∧ _ then _ else _) = _
      rw [if_pos ⟨a2, by rw [a3]⟩]
end
end Od

set_option Elab.async false
set_option linter.all false
set_option maxRecDepth 100000
set_option maxHeartbeats 4000000
/-! Od31: len(o), o an instance with an own __len__. -/
namespace Od
open PySem L2
theorem len_K {prog : Program} {w : World} {A : Around} {E : Value → Shared → Prop} {s : Shared} {K : PySem.W.Frag} {x C f : Addr} {ox : Obj} {od : Option Obj} {Q : Value → Shared → Prop} (X : K.In s.heap) (I : PySem.W.InstAt s.heap x ox C od) (hs : PySem.W.findIn K (.ref C) "__len__" = some (some (.ref f))) (hf : PySem.W.isFn K (.ref f) = true)
    (h : wpAny (model prog w) A.in1 (call (.ref f) [.ref x]) (fun r s' => ∃ (n : Int) (t : Tok), r = .int n t ∧ 0 ≤ n ∧ n < 2 ^ 63 ∧ ∀ t' tk, Q (.int n t') { s' with toks := tk }) E s) : wpAny (model prog w) A (call (.builtin "len") [.ref x]) Q E s := by
  refine Calls.call_function_entry kind_len plain_len entry_len (args_len1 _) ?_
  unfold Builtin.«len»
  refine wpAny_bind (m := oneArg "len" _) (wpAny_pure ?_)
  refine wpAny_bind (m := callSpecial? (.ref x) (Str.ofString "__len__")) (PySem.W.special_fn X I hs (beq_iff_eq.mp hf) (wpAny_mono h (fun r s' hr => ?_) fun _ _ y => y))
  obtain ⟨n, t, rfl, h0, h1, q⟩ := hr
  refine wpAny_bind (wpAny_holding (wpAny_pure ?_))
  refine wpAny_bind (wpAny_letGo ?_)
  show wpAny _ _ (if n < 0 then _ else _) _ _ _
  rw [if_neg (by omega)]
  show wpAny _ _ (if n ≥ 2 ^ 63 then _ else _) _ _ _
  rw [if_neg (by omega)]
  exact wpAny_bind (wpAny_mkInt (wpAny_pure ⟨_, rfl, q _ _⟩))
section
variable {X : Cx} {ι : Type} {pre : ι → Prop} {args : ι → List D} {res : ι → D} {ds : List D} {k : Nat}
theorem kd_lenOwn {cn : Str} {ns : List Str} {n : Int} (F : Dun X.prog X.w X.K X.mg X.base cn "__len__" k (puSp X.K X.mg pre args res)) (hr : Room (k + 1) X.A) (i : ι) (hp : pre i) (hds : [.obj cn ns ds] = args i) (hb : res i = .int n) (h0 : 0 ≤ n) (h1 : n < 2 ^ 63) : CalD X (.builtin "len") [.obj cn ns ds] (.int n) := by
  obtain ⟨C, f, hm, hf, hfn, F⟩ := F.ex
  have ur : CallR X (.builtin "len") (fun xs H Q => ∃ a dx fs, xs = [.ref a] ∧ H a = some (.ins C dx fs) ∧ puSp X.K X.mg pre args res [.ref a] H (fun v H' => ∃ r, v = .int r ∧ 0 ≤ r ∧ r < 2 ^ 63 ∧ Q (.int r) H') E0) := by
    intro pins s σ H xs us Q I r h
    obtain ⟨a, dx, fs, rfl, ea, q⟩ := h
    rw [Vals.ref1 r]
    obtain ⟨mA, O, _, _, _, _⟩ := ins_get I.hok ea
    obtain ⟨od, J, _⟩ := O.look
    have hr1 : Room k X.A.in1 := hr.in1
    refine len_K I.kIn J hf hfn (wpAny_mono (wpAny_call (SlX.run_at (us := [.ref a]) (ws := [.ref a]) F hr1 I.env0.in1 passL I (.cons rfl .nil) q)) (fun w s' z => ?_) fun _ _ x => x)
    obtain ⟨z', H', I', rz, r, rfl, g0, g1, qz⟩ := z
    obtain ⟨t, rfl⟩ := (show ∃ t, w = Value.int r t from rz)
    exact ⟨r, t, rfl, g0, g1, fun t' tk => ⟨.int r, H', I'.tok _, ⟨t', rfl⟩, qz⟩⟩
  refine ⟨_, ur, fun M H vs Q mt hv k => ?_⟩
  obtain ⟨v, rfl, hw⟩ := rs1 hv
  have hv0 := hw
  obtain ⟨ad, C', dx, xs, rfl, _, hm', ho, hl, rs⟩ := r_obj hw
  rw [hm] at hm'; cases hm'
  refine ⟨ad, dx, _, rfl, ho, pu_use i hp mt (by rw [← hds]; exact .cons hv0 .nil) fun v H' x r => ?_⟩
  rw [hb] at r
  exact ⟨n, by simpa [R] using r, h0, h1, k _ H' x (by simp [R])⟩
end
end Od

set_option Elab.async false
set_option linter.all false
set_option maxRecDepth 100000
set_option maxHeartbeats 4000000
/-! Tr4: Tree.parse at the texts of right trees, len, repr. -/
namespace Od
open PySem L2 TL PySem.Spec
abbrev sTLen : Stmt := inClass sTree 5
abbrev sTRepr : Stmt := inClass sTree 7
section
variable (P : Program) (w : World) (K : PySem.W.Frag) (mg : Str → Option Value) (base : Heap)
structure TxtOk (n : Nat) (f : Fo) : Prop where
  one : one? f
  ok : okF [] f
  dep : f.dep ≤ n
  len : f.txt.length ≤ 900
  size : f.size ≤ 1000
abbrev ParsedT (n k : Nat) : Prop := ∀ f : Fo, TxtOk n f → Fn P w K mg base "parsed" k [.str (strOf f.txt)] [] (.ok (treeO (f.flat 0 none))) []
abbrev ParseT (n k : Nat) : Prop := ∀ f : Fo, TxtOk n f → Sm P w K mg base "Tree" "parse" k [.str (strOf f.txt)] [] (.ok (treeO (f.flat 0 none))) []
abbrev ParseK (n k : Nat) : Prop := ∀ f : Fo, TxtOk n f → StcK P w K mg base "Tree" "parse" "text" k (outSp K mg [.str (strOf f.txt)] [] (.ok (treeO (f.flat 0 none))) [])
abbrev TextT (n k : Nat) : Prop := Mth P w K mg base "Tree" "text" k (puSp K mg (fun rows : List Row => okRows [] rows = true ∧ rows ≠ [] ∧ rows.length ≤ 1000 ∧ (fo rows [0]).dep ≤ n) (fun rows => [treeO rows]) (fun rows => .str (strOf (fo rows [0]).txt)))
def trepr (rows : List Row) : Str := "Tree(" ++ strOf (fo rows [0]).txt ++ ")"
abbrev TReprD (n k : Nat) : Prop := Dun P w K mg base "Tree" "__repr__" k (puSp K mg (fun rows : List Row => okRows [] rows = true ∧ rows ≠ [] ∧ rows.length ≤ 1000 ∧ (fo rows [0]).dep ≤ n) (fun rows => [treeO rows]) (fun rows => .str (trepr rows)))
abbrev TLenD (k : Nat) : Prop := Dun P w K mg base "Tree" "__len__" k (puSp K mg (fun rows : List Row => True) (fun rows => [treeO rows]) (fun rows => .int (rows.length : Nat)))
variable {P w K mg base}
theorem scTLen : FnScope ["self"] ["self"] (defScope sTLen) := ⟨rfl, rfl, rfl, by decide +kernel, rfl, by decide +kernel, by decide +kernel⟩
theorem scTRepr : FnScope ["self"] ["self"] (defScope sTRepr) := ⟨rfl, rfl, rfl, by decide +kernel, rfl, by decide +kernel, by decide +kernel⟩
theorem ok_parsedT {f XC : Addr} {fd : FuncData} {n : Nat} (hn : n ≤ 299) (F : Fun K "parsed" "parsed" sParsed f fd) (hm : mg "parsed" = some (.ref f)) (hb : Binds K fd ["text"] []) (B : Blt mg) (hmo : ∃ u, mg "MOST_OPEN" = some u ∧ RelV (.int 300) u)
    (TT : TextT P w K mg base n (5 + n)) (XE : Ox.Err0 P w K mg "InvalidText" "InvalidText" XC) (MD : ∀ rows : List Row, okT rows = true → rows.length ≤ 1000 → Fn P w K mg base "made_tree" 8 [rowsD rows] [] (.ok (treeO rows)) []) : ParsedT P w K mg base n (9 + n) := fun t ht => by
  obtain ⟨a1, a2, a3, a4⟩ := parse_txt ht.one ht.ok (Nat.le_trans ht.dep hn)
  have e : tl (strOf t.txt) = t.txt := rfl
  have h := ok_parsed (n := n) (k := 8 + n) F hm hb B (by omega) hmo (TT.up' (by omega)) XE (strOf t.txt) ht.len (fun rows hr => by
    rw [e, a1] at hr
    cases hr
    have := MD _ a2 (by rw [flat_len]; exact ht.size)
    unfold outM
    rw [a2]
    exact this.up' (by omega)) (fun rows hr _ => by
    rw [e, a1] at hr
    cases hr
    rw [a3]; exact ht.dep)
  rw [e, a4] at h
  rw [show 9 + n = 8 + n + 1 by omega]
  exact h
theorem ok_parseT {f : Addr} {fd : FuncData} {n k : Nat} (F : Fun K "parse" "Tree.parse" sTParse f fd) (hC : ∃ C mc, mg "Tree" = some (.ref C) ∧ ClX.CRead K C mc ∧ CStm K C mc "parse" f) (hb : Binds K fd ["text"] []) (PD : ParsedT P w K mg base n k) : ParseT P w K mg base n (k + 1) := fun t ht =>
  sm_of hC F scTParse hb (k := k) fun cdv A outer s H0 E M Q hr hM kq => at_end (e_fn (PD t ht) hr (a_cons (e_name 0 rfl) a_nil) sw0) rfl (.head _) kq
theorem ok_parseK {f : Addr} {fd : FuncData} {n k : Nat} (F : Fun K "parse" "Tree.parse" sTParse f fd) (hC : ∃ C mc, mg "Tree" = some (.ref C) ∧ ClX.CRead K C mc ∧ CStm K C mc "parse" f) (hb : KBinds K fd ["text"] ["text"] (fun us ws => us ++ ws) (fun vs zs => vs ++ zs)) (PD : ParsedT P w K mg base n k) : ParseK P w K mg base n (k + 1) := fun t ht => by
  obtain ⟨C, mc, hm, h1, h2⟩ := hC
  exact ⟨C, mc, f, fd, ["text"], hm, h1, h2, F.kp, fnokO_of F scTParse rfl fun cdv A outer s H0 E M Q hr hM kq => at_end (e_fn (PD t ht) hr (a_cons (e_name 0 rfl) a_nil) sw0) rfl (.head _) kq, hb⟩
theorem ok_tlen {f C : Addr} {fd : FuncData} (F : Fun K "__len__" "Tree.__len__" sTLen f fd) (hC : ∃ C, mg "Tree" = some (.ref C) ∧ PySem.W.findIn K (.ref C) "__len__" = some (some (.ref f)) ∧ PySem.W.isFn K (.ref f) = true) (hb : Binds K fd ["self"] []) (B : Blt mg) (T : TrT w K mg C) : TLenD P w K mg base 1 := by
  refine dun_of hC F scTLen hb (fun i => rfl) fun cdv A outer s H0 E rows M Q hp hr kq => ?_
  exact at_end (d := .int (rows.length : Nat)) (EE.eq (e_blt kd_lenL (a_cons (e_rows T (e_name 0 rfl)) a_nil) B.len) (by rw [List.length_map])) rfl (.head _) kq
theorem ok_trepr {f : Addr} {fd : FuncData} {n k : Nat} (F : Fun K "__repr__" "Tree.__repr__" sTRepr f fd) (hC : ∃ C, mg "Tree" = some (.ref C) ∧ PySem.W.findIn K (.ref C) "__repr__" = some (some (.ref f)) ∧ PySem.W.isFn K (.ref f) = true) (hb : Binds K fd ["self"] []) (TT : TextT P w K mg base n k) : TReprD P w K mg base n (k + 1) := by
  refine dun_of hC F scTRepr hb (fun i => rfl) fun cdv A outer s H0 E rows M Q hp hr kq => ?_
  have l1 : (("Tree(" : Str)).length = 5 := by decide +kernel
  have l2 : ((")" : Str)).length = 1 := by decide +kernel
  have l3 : (strOf (fo rows [0]).txt).length ≤ 29000 := by
    have h1 := txt_len _ _ (fo_okF hp.1 [0])
    have h2 := fo_le hp.1 1 0 (by decide) (List.length_pos_iff.mpr hp.2.1)
    have h3 := hp.2.2.1
    show (fo rows [0]).txt.length ≤ 29000
    omega
  exact at_end (d := .str (trepr rows)) (EE.eq (e_fstr3 (EE.eq (e_meth0 TT hr (e_name 0 rfl) (by decide +kernel) rows hp rfl) rfl) (by omega)) rfl) rfl (.head _) kq
end
end Od

set_option Elab.async false
set_option linter.all false
set_option maxRecDepth 100000
set_option maxHeartbeats 4000000
/-! LaTr: _law_tree. -/
namespace Od
open PySem L2 TL PySem.Spec
abbrev sLTree : Stmt := top 33
section
variable {P : Program} {w : World} {K : PySem.W.Frag} {mg : Str → Option Value} {base : Heap}
theorem scLTree : FnScope ["_law_mine"] ["_law_mine"] (defScope sLTree) := ⟨rfl, rfl, rfl, by decide +kernel, rfl, by decide +kernel, by decide +kernel⟩
/-- the rows of a right tree -/
structure RowsOk (n : Nat) (rows : List Row) : Prop where
  ex : ∃ f, TxtOk n f ∧ rows = f.flat 0 none
theorem RowsOk.out {n : Nat} {rows : List Row} (h : RowsOk n rows) : okRows [] rows = true ∧ rows ≠ [] ∧ rows.length ≤ 1000 ∧ (fo rows [0]).dep ≤ n := by
  obtain ⟨f, hf, rfl⟩ := h.ex
  have h1 := hf.one
  cases f with
  | nil => exact h1.elim
  | cons l ks rs =>
    cases rs with
    | cons _ _ _ => exact h1.elim
    | nil =>
      have ok := okF_tree hf.ok
      exact ⟨ok, by simp [Fo.flat], by rw [flat_len]; exact hf.size, by rw [fo_flat h1 (ok_fwd ok)]; exact hf.dep⟩
abbrev LTreeD (P : Program) (w : World) (K : PySem.W.Frag) (mg : Str → Option Value) (base : Heap) (n k : Nat) : Prop := Dfn P w K mg base "_law_tree" k (puSp K mg (fun rows : List Row => RowsOk n rows) (fun rows => [rowsD rows]) treeO)
theorem ok_ltree {f : Addr} {fd : FuncData} {n k : Nat} (F : Fun K "_law_tree" "_law_tree" sLTree f fd) (hm : mg "_law_tree" = some (.ref f)) (hb : Binds K fd ["_law_mine"] []) (hk : 1 + n ≤ k) (RT : RowTextD P w K mg base n (1 + n)) (PT : ParseT P w K mg base n k) : LTreeD P w K mg base n (k + 1) := by
  refine dfn_of F hm scLTree hb (fun i => rfl) fun cdv A outer s H0 E rows M Q hp hr kq => ?_
  obtain ⟨o1, o2, o3, o4⟩ := hp.out
  obtain ⟨f, hf, e⟩ := hp.ex
  have htx : (fo rows [0]).txt = f.txt := by
    have h1 := hf.one
    rw [e] at o1 ⊢
    rw [fo_flat h1 (ok_fwd o1)]
  exact at_end (EE.eq (e_sm (PT f hf) hr (a_cons (EE.eq (e_call RT (hr.mono hk) (a_cons (e_name 0 rfl) (a_cons e_int a_nil)) (⟨rows, 0⟩ : TrI) ⟨⟨o1, o3, List.length_pos_iff.mpr o2⟩, o4⟩ rfl) (by show D.str (strOf (fo rows [0]).txt) = _; rw [htx])) a_nil) sw0) (by rw [← e])) rfl (.head _) kq
end
end Od

set_option Elab.async false
set_option linter.all false
set_option maxRecDepth 100000
set_option maxHeartbeats 4000000
/-! Pt5: trees below a new root, as rows. -/
namespace Od
open PySem L2 TL PySem.Spec
def shift (n : Nat) (r : Row) : Row := (r.1, some (match r.2 with
  | none => 0
  | some p => (n : Int) + p))
def joinF (l : List Nat) (ts : List (List Row)) : List Row := ts.foldl (fun acc t => acc ++ t.map (shift acc.length)) [(l, none)]
theorem joinF_snoc (l : List Nat) (ts : List (List Row)) (t : List Row) : joinF l (ts ++ [t]) = joinF l ts ++ t.map (shift (joinF l ts).length) := by
  unfold joinF
  rw [List.foldl_append]; rfl
/-- the root's letters stand in each tree's root -/
def sharedB (l : List Nat) (t : List Row) : Bool := l.all fun c => decide (c ∈ (rowAt t 0).1)
theorem shift_rows {l : List Nat} {acc : List Row} (ha : rowAt acc 0 = (l, none)) (hp : 0 < acc.length) : ∀ (rest pre : List Row), okRows pre rest = true → (pre = [] → rest ≠ [] → ∀ c ∈ l, c ∈ (rowAt rest 0).1) → okRows (acc ++ pre.map (shift acc.length)) (rest.map (shift acc.length)) = true
  | [], _, _, _ => rfl
  | r :: rest, pre, h, hs => by
    simp only [okRows, Bool.and_eq_true] at h
    have ih := shift_rows ha hp rest (pre ++ [r]) h.2 (fun z => by simp at z)
    rw [List.map_append, ← List.append_assoc] at ih
    show (okAt (acc ++ pre.map (shift acc.length)) (shift acc.length r) && okRows (acc ++ pre.map (shift acc.length) ++ [shift acc.length r]) (rest.map (shift acc.length))) = true
    have ih' : okRows (acc ++ pre.map (shift acc.length) ++ [shift acc.length r]) (rest.map (shift acc.length)) = true := ih
    rw [ih', Bool.and_true]
    obtain ⟨k, p⟩ := r
    cases p with
    | none =>
      obtain ⟨h1, h2⟩ := okAt_none h.1
      subst h2
      have h3 := hs rfl (by simp)
      exact okAt_mk (q := 0) h1 (by simp; omega) fun c hc => by
        rw [List.map_nil, List.append_nil, ha] at hc
        exact h3 c hc
    | some p =>
      obtain ⟨h1, h2, h3, h4⟩ := okAt_some h.1
      have e : shift acc.length (k, some p) = (k, some (((acc.length + p.toNat : Nat)) : Int)) := by
        show (k, some ((acc.length : Int) + p)) = _
        congr 2
        omega
      rw [e]
      refine okAt_mk h1 (by rw [List.length_append, List.length_map]; omega) fun c hc => h4 c ?_
      have er : rowAt (acc ++ pre.map (shift acc.length)) (acc.length + p.toNat) = shift acc.length (rowAt pre p.toNat) := by
        have hlt : p.toNat < pre.length := by omega
        unfold rowAt
        rw [List.getElem?_append_right (by omega), Nat.add_sub_cancel_left, List.getElem?_map, List.getElem?_eq_getElem hlt]
        rfl
      rw [er] at hc
      exact hc
theorem joinF_head (l : List Nat) : ∀ ts : List (List Row), rowAt (joinF l ts) 0 = (l, none) ∧ 0 < (joinF l ts).length := by
  intro ts
  induction ts using rev_ind with
  | h0 => exact ⟨rfl, Nat.zero_lt_one⟩
  | h1 ts t ih =>
    rw [joinF_snoc, rowAt_app ih.2]
    exact ⟨ih.1, by rw [List.length_append]; omega⟩
theorem joinF_ok {l : List Nat} (hl : letsB l = true) : ∀ ts : List (List Row), (∀ t ∈ ts, okRows [] t = true ∧ t ≠ [] ∧ sharedB l t = true) → okRows [] (joinF l ts) = true := by
  intro ts
  induction ts using rev_ind with
  | h0 =>
    intro _
    show (okAt [] (l, none) && true) = true
    simp [okAt, hl]
  | h1 ts t ih =>
    intro h
    have h1 := ih fun t ht => h t (List.mem_append_left _ ht)
    obtain ⟨h2, h3, h4⟩ := h t (by simp)
    rw [joinF_snoc, okRows_app, h1]
    obtain ⟨h5, h6⟩ := joinF_head l ts
    have := shift_rows h5 h6 t [] h2 (fun _ _ c hc => by
      have := List.all_eq_true.mp h4 c hc
      simpa using this)
    simpa using this
end Od

set_option Elab.async false
set_option linter.all false
set_option maxRecDepth 100000
set_option maxHeartbeats 4000000
/-! Tr5: Tree.leaf, Tree.joined. -/
namespace Od
open PySem L2 TL PySem.Spec
abbrev sTLeaf : Stmt := inClass sTree 1
abbrev sTJoined : Stmt := inClass sTree 2
local macro_rules
  | `(tactic| walk_at "bd") => `(tactic| first | exact bd_add | exact bd_sub | exact bd_mulR (by decide) | exact bd_mulL (by decide) | exact bd_mod (by decide) | exact bd_div (by decide))
local macro_rules
  | `(tactic| walk_at "le") => `(tactic| repeat (first | exact LeD.nil | apply LeD.drop | apply LeD.same))
abbrev badLt (d : D) : Xc := ⟨"InvalidLetters", ["code", "given"], [.str "InvalidLetters", d]⟩
abbrev badSh : Xc := ⟨"NotShared", ["code"], [.str "NotShared"]⟩
def okJ (l : List Nat) (ts : List (List Row)) : Bool := ts.all fun t => sharedB l t
def outJ (l : List Nat) (ts : List (List Row)) : Out := if okJ l ts then .ok (treeO (joinF l ts)) else .err badSh
structure JnPre (l : List Nat) (ts : List (List Row)) : Prop where
  le : letsB l = true
  ok : ∀ t ∈ ts, okRows [] t = true ∧ t ≠ [] ∧ t.length ≤ 100
  n : ts.length ≤ 5
section
variable (P : Program) (w : World) (K : PySem.W.Frag) (mg : Str → Option Value) (base : Heap)
abbrev LeafT (k : Nat) : Prop := ∀ l : List Nat, letsB l = true → Sm P w K mg base "Tree" "leaf" k [.str (strOf l)] [] (.ok (treeO [(l, none)])) []
abbrev JoinT (k : Nat) : Prop := ∀ (l : List Nat) (ts : List (List Row)), JnPre l ts → Sm P w K mg base "Tree" "joined" k ([.str (strOf l)] ++ ts.map treeO) [] (outJ l ts) []
abbrev JoinX (k : Nat) : Prop := ∀ (d : D) (ts : List (List Row)), ValD d → isLetsV d = false → ts.length ≤ 5 → Sm P w K mg base "Tree" "joined" k ([d] ++ ts.map treeO) [] (.err (badLt d)) []
variable {P w K mg base}
theorem scTLeaf : FnScope ["letters"] ["letters"] (defScope sTLeaf) := ⟨rfl, rfl, rfl, by decide +kernel, rfl, by decide +kernel, by decide +kernel⟩
theorem scTJoined : FnScope ["letters", "trees", "rows", "tree", "first", "signs", "parent", "sign"] ((["letters"] : List Str) ++ (["trees"] : List Str)) (defScope sTJoined) := ⟨rfl, rfl, rfl, by decide +kernel, rfl, by decide +kernel, by decide +kernel⟩
theorem ok_tleaf {f : Addr} {fd : FuncData} (F : Fun K "leaf" "Tree.leaf" sTLeaf f fd) (hC : ∃ C mc, mg "Tree" = some (.ref C) ∧ ClX.CRead K C mc ∧ CStm K C mc "leaf" f) (hb : Binds K fd ["letters"] []) (L : IsLetsD P w K mg base 4) (MK : MkT P w K mg base 6) : LeafT P w K mg base 8 := fun l hl => by
  refine sm_of hC F scTLeaf hb (k := 7) fun cdv A outer s H0 E M Q hr hM kq => ?_
  have MK' := MK.at [(l, none)] ⟨by simp [okRows, okAt, hl], by simp, by show 1 ≤ 1000; decide⟩
  refine at_if (b0 := false) (cs1 := []) (t_not (k0 := true) (t_val (EE.eq (e_call L (hr.mono (by decide)) (a_cons (e_name 0 rfl) a_nil) (.str (strOf l)) (lets_ValD hl) rfl) (by exact congrArg D.bl hl)))) (fun h => by cases h) (fun _ => at_nil ?_)
  exact at_end (e_ma MK' hr (a_cons (e_tup (a_cons (e_name 0 rfl) (a_cons e_non a_nil))) a_nil)) rfl (.head _) kq
theorem ok_tjoinX {f C : Addr} {fd : FuncData} (F : Fun K "joined" "Tree.joined" sTJoined f fd) (hC : ∃ C mc, mg "Tree" = some (.ref C) ∧ ClX.CRead K C mc ∧ CStm K C mc "joined" f) (L : IsLetsD P w K mg base 4) (XL : Ox.Err1 P w K mg "InvalidLetters" "InvalidLetters" "given" C) (hb : BindsS "joined" "Tree.joined" sTJoined ["letters"] "trees") : JoinX P w K mg base 6 := fun d ts hv hd hn => by
  have body : BodyO P w K mg base "Tree.joined" sTJoined f ["letters", "trees", "rows", "tree", "first", "signs", "parent", "sign"] 5 ([d] ++ [.tup (ts.map treeO)]) [] (.err (badLt d)) [] := fun cdv A outer s H0 E M Q hr hM kq => by
    refine at_if (b0 := true) (cs1 := []) (t_not (k0 := false) (t_val (EE.eq (e_call L (hr.mono (by decide)) (a_cons (e_name 0 rfl) a_nil) d hv rfl) (by exact congrArg D.bl hd)))) (fun _ => ?_) fun h => by cases h
    exact at_raise1G XL (e_name 0 rfl) hr (.head _) (fun _ h => h) (fun _ h => h) (by simp) kq
  exact sm_star (heads := [d]) (ps := ["letters"]) (pv := "trees") hC F scTJoined hb body (by rw [List.length_map]; omega) rfl
theorem joinF_len (l : List Nat) (N : Nat) : ∀ ts : List (List Row), (∀ t ∈ ts, t.length ≤ N) → (joinF l ts).length ≤ 1 + N * ts.length := by
  intro ts
  induction ts using rev_ind with
  | h0 => intro _; exact Nat.le_refl 1
  | h1 ts t ih =>
    intro h
    have h1 := ih fun t ht => h t (List.mem_append_left _ ht)
    have h2 := h t (by simp)
    rw [joinF_snoc, List.length_append, List.length_map, List.length_append, List.length_singleton, Nat.mul_add, Nat.mul_one]
    omega
theorem ok_tjoin {f C : Addr} {fd : FuncData} (F : Fun K "joined" "Tree.joined" sTJoined f fd) (hC : ∃ C mc, mg "Tree" = some (.ref C) ∧ ClX.CRead K C mc ∧ CStm K C mc "joined" f) (B : Blt mg) (L : IsLetsD P w K mg base 4) (MK : MkT P w K mg base 6) (ND : TM0 P w K mg base "nodes" rowsD 1) (AT : TM1 P w K mg base "letters_at" (fun i => .str (strOf (rowAt i.rows i.at_).1)) 3) (XS : Ox.Err0 P w K mg "NotShared" "NotShared" C) (hb : BindsS "joined" "Tree.joined" sTJoined ["letters"] "trees") : JoinT P w K mg base 8 := fun l ts hp => by
  have body : BodyO P w K mg base "Tree.joined" sTJoined f ["letters", "trees", "rows", "tree", "first", "signs", "parent", "sign"] 7 ([.str (strOf l)] ++ [.tup (ts.map treeO)]) [] (outJ l ts) [] := fun cdv A outer s H0 E M Q hr hM kq => by
    have hll := lets_len hp.le
    refine at_if (b0 := false) (cs1 := []) (t_not (k0 := true) (t_val (EE.eq (e_call L (hr.mono (by decide)) (a_cons (e_name 0 rfl) a_nil) (.str (strOf l)) (lets_ValD hp.le) rfl) (by exact congrArg D.bl hp.le)))) (fun h => by cases h) (fun _ => at_nil ?_)
    refine at_setL 2 (ds := [Row.d (l, none)]) (cs1 := []) (a_cons (e_tup (a_cons (e_name 0 rfl) (a_cons e_non a_nil))) a_nil) (by simp) (fun q nq => ?_) scTJoined.nd
    refine at_for (α := fun _ => Unit) (ds := ts.map treeO) (fun i _ => okJ l (ts.take i) = true) (fun _ _ => [some (.str (strOf l)), some (.tup (ts.map treeO)), some (.ref q), none, none, none, none, none]) (fun i _ => [(q, .lst ((joinF l (ts.take i)).map Row.d))])
      (ei_tup (e_name 1 rfl)) (ltg_name 3 scTJoined.nd) (fun _ _ => trivial) () rfl rfl rfl (fun _ _ _ => rfl) (fun i d u H1 hd hj => ?_) fun u hj => ?_
    · obtain ⟨t, ht, rfl⟩ : ∃ t, ts[i]? = some t ∧ d = treeO t := by
        rw [List.getElem?_map] at hd
        cases h : ts[i]? with
        | none => rw [h] at hd; cases hd
        | some t => rw [h] at hd; exact ⟨t, rfl, (Option.some.inj hd).symm⟩
      obtain ⟨t1, t2, t3⟩ := hp.ok t (List.mem_of_getElem? ht)
      have htk : ts.take (i + 1) = ts.take i ++ [t] := by rw [List.take_add_one, ht]; rfl
      have hjl := joinF_len l 100 (ts.take i) fun t h => (hp.ok t (List.mem_of_mem_take h)).2.2
      have hti : (ts.take i).length ≤ 5 := by rw [List.length_take]; have := hp.n; omega
      have htl : 0 < t.length := List.length_pos_iff.mpr t2
      generalize hJ : joinF l (ts.take i) = J at hjl
      have hJ1 : joinF l (ts.take (i + 1)) = J ++ t.map (shift J.length) := by rw [htk, joinF_snoc, hJ]
      have hok1 : okJ l (ts.take (i + 1)) = sharedB l t := by
        unfold okJ at hj ⊢
        rw [htk, List.all_append, hj]
        simp
      refine at_set 4 (d := .int (J.length : Nat)) (cs1 := [(q, .lst (J.map Row.d))]) (EE.eq (e_lenc (e_name 2 rfl) (.head _) B.len) (by rw [List.length_map])) ?_ scTJoined.nd
      refine at_for (α := fun _ => Unit) (ds := t.map Row.d) (fun _ _ => True) (fun _ _ => [some (.str (strOf l)), some (.tup (ts.map treeO)), some (.ref q), some (treeO t), some (.int (J.length : Nat)), none, none, none]) (fun j _ => [(q, .lst ((J ++ (t.take j).map (shift J.length)).map Row.d))])
        (ei_list (EE.eq (e_meth0 ND (hr.mono (by decide)) (e_name 3 rfl) (by decide +kernel) t ⟨t1, t2, by omega⟩ rfl) rfl)) (ltg_pair 5 6 scTJoined.nd) (fun d hd => by
          obtain ⟨r, _, rfl⟩ := List.mem_map.mp hd
          exact ⟨_, _, rfl⟩) () trivial rfl (by simp) (fun _ _ _ => rfl) (fun j d u H2 hd2 _ => ?_) fun u _ => ?_
      · obtain ⟨r, hr2, rfl⟩ : ∃ r, t[j]? = some r ∧ d = Row.d r := by
          rw [List.getElem?_map] at hd2
          cases h : t[j]? with
          | none => rw [h] at hd2; cases hd2
          | some r => rw [h] at hd2; exact ⟨r, rfl, (Option.some.inj hd2).symm⟩
        have htj : t.take (j + 1) = t.take j ++ [r] := by rw [List.take_add_one, hr2]; rfl
        have hlj : (t.take j).length ≤ 100 := by rw [List.length_take]; omega
        obtain ⟨k, p⟩ := r
        refine at_expr (d := .non) (cs1 := [(q, .lst ((J ++ (t.take j).map (shift J.length)).map Row.d ++ [Row.d (shift J.length (k, p))]))]) (e_app (e_name 2 rfl) ⟨_, .head _⟩ (EE.eq (y := Row.d (shift J.length (k, p))) (e_tup (a_cons (e_name 5 rfl) (a_cons (e_if (p0 := isNonD (optD p)) (t_isN (e_name 6 rfl)) rfl (fun h => EE.eq (y := optD (shift J.length (k, p)).2) e_int ?n1) (fun h => EE.eq (y := optD (shift J.length (k, p)).2) (e_bin (x := .int (J.length : Nat)) (y := .int (p.getD 0)) (e_name 4 rfl) (EE.eq (e_name 6 rfl) ?n2) bd_add) ?n3)) a_nil))) rfl) .here (by rw [List.length_map, List.length_append, List.length_map]; omega)) (at_nil ?_)
        case n1 =>
          cases p with
          | none => rfl
          | some p => cases h
        case n2 =>
          cases p with
          | none => cases h
          | some p => rfl
        case n3 =>
          cases p with
          | none => cases h
          | some p => rfl
        refine at_go (at_inv (e := [some (.str (strOf l)), some (.tup (ts.map treeO)), some (.ref q), some (treeO t), some (.int (J.length : Nat)), none, none, none]) () trivial rfl rfl) (by walk_at "le") ?_
        rw [htj]
        simp
      · rw [List.length_map, List.take_length]
        refine at_if (b0 := !sharedB l t) (cs1 := [(q, .lst ((J ++ t.map (shift J.length)).map Row.d))]) (t_not (t_val (e_blt (kd_all (bs := l.map fun c => decide (c ∈ (rowAt t 0).1))) (a_cons (EE.eq (e_lcM [("sign", 7)] l (fun c => D.str (sg c)) (fun c => D.bl (decide (c ∈ (rowAt t 0).1)))
          (EI.eq (ei_str (e_name 0 rfl)) (by rw [signs_tl]; simp; rfl)) (ctg_name 7 scTJoined.nd (by decide) rfl) (fun _ _ => trivial) (by omega)
          (fun c hc M' hM s2 H2 C2 cl2 fp2 => EE.eq (e_cmp (e_name 7 rfl) (EE.eq (e_meth AT (hr.mono (by decide)) (e_name 3 rfl) (a_cons e_int a_nil) (by decide +kernel) (⟨t, 0⟩ : TrI) ⟨t1, by show t.length ≤ 1000; omega, htl⟩ rfl) rfl) cd_inC) rfl) (blkOk_by rfl) scTJoined.nd) (by simp)) a_nil) B.all)) |>.eq (by simp [sharedB, List.all_map, Function.comp_def])) (fun h => ?_) (fun h => at_nil ?_)
        · have hs : sharedB l t = false := by simpa using h
          have : okJ l ts = false := by
            unfold okJ
            rw [List.all_eq_false]
            exact ⟨t, List.mem_of_getElem? ht, by simp [hs]⟩
          unfold outJ at kq
          rw [this] at kq
          exact at_raise0G (c2 := []) XS (hr.mono (show 2 ≤ 7 by decide)) (.tail _ (.head _)) (fun a h => .inl h) (by simp) (by simp) kq
        · have hs : sharedB l t = true := by simpa using h
          refine at_nil (at_go (at_inv (e := [some (.str (strOf l)), some (.tup (ts.map treeO)), some (.ref q), none, none, none, none, none]) () (hok1.trans hs) rfl rfl) (by walk_at "le") ?_)
          rw [hJ1]
    · rw [List.length_map, List.take_length] at hj ⊢
      have hjl := joinF_len l 100 ts fun t h => (hp.ok t h).2.2
      have hn := hp.n
      have hok : okRows [] (joinF l ts) = true := joinF_ok hp.le ts fun t h => ⟨(hp.ok t h).1, (hp.ok t h).2.1, List.all_eq_true.mp hj t h⟩
      have MK' := MK.at (joinF l ts) ⟨hok, List.length_pos_iff.mp (joinF_head l ts).2, by omega⟩
      unfold outJ at kq
      rw [hj] at kq
      refine at_pure 2 rfl nq ?_
      exact at_end (e_maS1 MK' hr (.lst _) (e_name 2 rfl)) rfl (.head _) kq
  exact sm_star (heads := [.str (strOf l)]) (ps := ["letters"]) (pv := "trees") hC F scTJoined hb body (by rw [List.length_map]; have := hp.n; omega) rfl
end
end Od

set_option Elab.async false
set_option linter.all false
set_option maxRecDepth 100000
set_option maxHeartbeats 4000000
/-! Pt6: several drawn trees, one after another (k13). -/
namespace Od
open PySem L2 TL PySem.Spec
/-- the bag behind n drawn trees -/
def bagT (b : Bag) (cs : List Nat) (most : Nat) : Nat → Bag
  | 0 => b
  | n + 1 => (rowsF (bagT b cs most n) cs (most : Int)).bag
def treeT (b : Bag) (cs : List Nat) (most n : Nat) : List Row := (rowsF (bagT b cs most n) cs (most : Int)).rows
theorem bagT_ok {b : Bag} (hb : b.Ok) (cs : List Nat) (most : Nat) : ∀ n, (bagT b cs most n).Ok
  | 0 => hb
  | n + 1 => rowsF_ok (bagT_ok hb cs most n) cs _
/-- what the law itself reckons: the rows below a new root -/
theorem joinF_law (l : List Nat) (ts : List (List Row)) (t : List Row) : joinF l (ts ++ [t]) = joinF l ts ++ t.map (fun r => (r.1, some (match r.2 with
  | none => (0 : Int)
  | some p => ((joinF l ts).length : Int) + p))) := joinF_snoc l ts t
end Od

set_option Elab.async false
set_option linter.all false
set_option maxRecDepth 100000
set_option maxHeartbeats 4000000
namespace Od
open PySem L2 TL PySem.Spec
abbrev sSame : Stmt := top 27
local macro_rules
  | `(tactic| walk_at "bd") => `(tactic| first | exact bd_add | exact bd_sub | exact bd_mulR (by decide) | exact bd_mulL (by decide) | exact bd_mod (by decide) | exact bd_div (by decide))
local macro_rules
  | `(tactic| walk_at "cd") => `(tactic| first | exact cd_lt | exact cd_le | exact cd_gt | exact cd_ge | exact cd_eqI | exact cd_eqS | exact cd_eqB)
local macro_rules
  | `(tactic| walk_at "le") => `(tactic| repeat (first | exact LeD.nil | apply LeD.drop | apply LeD.same))
/-- plain data, n lists deep -/
def plD : Nat → D → Prop
  | _, .non => True
  | _, .bl _ => True
  | _, .int _ => True
  | _, .str _ => True
  | n + 1, .lst ds => ds.length ≤ 1000 ∧ ∀ d ∈ ds, plD n d
  | n + 1, .tup ds => ds.length ≤ 1000 ∧ ∀ d ∈ ds, plD n d
  | _, _ => False
section
variable {P : Program} {w : World} {K : PySem.W.Frag} {mg : Str → Option Value} {base : Heap}
abbrev SameD (P : Program) (w : World) (K : PySem.W.Frag) (mg : Str → Option Value) (base : Heap) (n k : Nat) : Prop := Dfn P w K mg base "_law_same" k (puSp K mg (fun d : D => plD n d) (fun d => [d, d]) (fun _ => .bl true))
theorem scSame : FnScope ["_law_found", "_law_due", "_law_a", "_law_b"] ["_law_found", "_law_due"] (defScope sSame) := ⟨rfl, rfl, rfl, by decide +kernel, rfl, by decide +kernel, by decide +kernel⟩
theorem pairs_self (ds : List D) : pairs ds ds = ds.map fun d => .tup [d, d] := by
  induction ds with
  | nil => rfl
  | cons d ds ih => simp [pairs, ih]
theorem same_int {f : Addr} {cdv : Value} {A : Around} {outer : List Env} {s : Shared} {H0 : Hp} {E : XK} {M : Addr → Prop} {Q : VK} (B : Blt mg) (i : Int)
    (kq : ∀ v H', (∀ a, M a → H' a ≠ none) → Ext (dom []) H0 H' → (∀ p ∈ ([] : Cs), M p.1 ∧ Cell K mg M H' p.1 p.2) → R K mg M H' v (.bl true) → Q v H') :
    At (cxOf (L2.CX P w) P w K mg base ["_law_found", "_law_due", "_law_a", "_law_b"] "_law_same" (defScope sSame) f cdv A outer s H0 E) M [some (.int i), some (.int i), none, none] [] [(dom [], H0)]
      (wSs (cxOf (L2.CX P w) P w K mg base ["_law_found", "_law_due", "_law_a", "_law_b"] "_law_same" (defScope sSame) f cdv A outer s H0 E) (defBody sSame) { nx := fun _ H' => Q .non H', rt := Q }) := by
  refine at_if (t_val (e_blt (kd_isiT (t := "int") (n1 := "list") (n2 := "tuple") (b1 := false) (b2 := false) rfl (by decide +kernel) (by decide +kernel)) (a_cons (e_name 1 rfl) (a_cons (e_tup (a_cons (e_gty (t := "list") B.list) (a_cons (e_gty (t := "tuple") B.tuple) a_nil))) a_nil)) B.isinstance)) (fun h => by cases h) fun _ => at_nil ?_
  refine at_if (t_ew (t_or (t_isN (e_name 1 rfl)) fun _ => t_or1 (t_isN (e_name 0 rfl)))) (fun h => by cases h) fun _ => at_nil ?_
  refine at_if (t_ew (t_or (t_cmp (e_blt (kd_isi (t := "int") (n := "bool") (b := false) rfl (by decide +kernel)) (a_cons (e_name 1 rfl) (a_cons (e_gty (t := "bool") B.bool) a_nil)) B.isinstance) (e_blt (kd_isi (t := "int") (n := "bool") (b := false) rfl (by decide +kernel)) (a_cons (e_name 0 rfl) (a_cons (e_gty (t := "bool") B.bool) a_nil)) B.isinstance) cd_neB) fun _ => t_or1 (t_cmp (e_blt (kd_isi (t := "int") (n := "int") (b := true) rfl (by decide +kernel)) (a_cons (e_name 1 rfl) (a_cons (e_gty (t := "int") B.int) a_nil)) B.isinstance) (e_blt (kd_isi (t := "int") (n := "int") (b := true) rfl (by decide +kernel)) (a_cons (e_name 0 rfl) (a_cons (e_gty (t := "int") B.int) a_nil)) B.isinstance) cd_neB))) (fun h => by cases h) fun _ => at_nil ?_
  exact at_end (e_and (p0 := true) (q0 := true) (e_cmp (e_blt (kd_isi (t := "int") (n := "str") (b := false) rfl (by decide +kernel)) (a_cons (e_name 1 rfl) (a_cons (e_gty (t := "str") B.str) a_nil)) B.isinstance) (e_blt (kd_isi (t := "int") (n := "str") (b := false) rfl (by decide +kernel)) (a_cons (e_name 0 rfl) (a_cons (e_gty (t := "str") B.str) a_nil)) B.isinstance) cd_eqB) fun _ => e_one (EE.eq (e_cmp (e_name 0 rfl) (e_name 1 rfl) (by walk_at "cd")) (by simp))) rfl (.head _) kq
theorem same_bool {f : Addr} {cdv : Value} {A : Around} {outer : List Env} {s : Shared} {H0 : Hp} {E : XK} {M : Addr → Prop} {Q : VK} (B : Blt mg) (i : Bool)
    (kq : ∀ v H', (∀ a, M a → H' a ≠ none) → Ext (dom []) H0 H' → (∀ p ∈ ([] : Cs), M p.1 ∧ Cell K mg M H' p.1 p.2) → R K mg M H' v (.bl true) → Q v H') :
    At (cxOf (L2.CX P w) P w K mg base ["_law_found", "_law_due", "_law_a", "_law_b"] "_law_same" (defScope sSame) f cdv A outer s H0 E) M [some (.bl i), some (.bl i), none, none] [] [(dom [], H0)]
      (wSs (cxOf (L2.CX P w) P w K mg base ["_law_found", "_law_due", "_law_a", "_law_b"] "_law_same" (defScope sSame) f cdv A outer s H0 E) (defBody sSame) { nx := fun _ H' => Q .non H', rt := Q }) := by
  refine at_if (t_val (e_blt (kd_isiT (t := "bool") (n1 := "list") (n2 := "tuple") (b1 := false) (b2 := false) rfl (by decide +kernel) (by decide +kernel)) (a_cons (e_name 1 rfl) (a_cons (e_tup (a_cons (e_gty (t := "list") B.list) (a_cons (e_gty (t := "tuple") B.tuple) a_nil))) a_nil)) B.isinstance)) (fun h => by cases h) fun _ => at_nil ?_
  refine at_if (t_ew (t_or (t_isN (e_name 1 rfl)) fun _ => t_or1 (t_isN (e_name 0 rfl)))) (fun h => by cases h) fun _ => at_nil ?_
  refine at_if (t_ew (t_or (t_cmp (e_blt (kd_isi (t := "bool") (n := "bool") (b := true) rfl (by decide +kernel)) (a_cons (e_name 1 rfl) (a_cons (e_gty (t := "bool") B.bool) a_nil)) B.isinstance) (e_blt (kd_isi (t := "bool") (n := "bool") (b := true) rfl (by decide +kernel)) (a_cons (e_name 0 rfl) (a_cons (e_gty (t := "bool") B.bool) a_nil)) B.isinstance) cd_neB) fun _ => t_or1 (t_cmp (e_blt (kd_isi (t := "bool") (n := "int") (b := true) rfl (by decide +kernel)) (a_cons (e_name 1 rfl) (a_cons (e_gty (t := "int") B.int) a_nil)) B.isinstance) (e_blt (kd_isi (t := "bool") (n := "int") (b := true) rfl (by decide +kernel)) (a_cons (e_name 0 rfl) (a_cons (e_gty (t := "int") B.int) a_nil)) B.isinstance) cd_neB))) (fun h => by cases h) fun _ => at_nil ?_
  exact at_end (e_and (p0 := true) (q0 := true) (e_cmp (e_blt (kd_isi (t := "bool") (n := "str") (b := false) rfl (by decide +kernel)) (a_cons (e_name 1 rfl) (a_cons (e_gty (t := "str") B.str) a_nil)) B.isinstance) (e_blt (kd_isi (t := "bool") (n := "str") (b := false) rfl (by decide +kernel)) (a_cons (e_name 0 rfl) (a_cons (e_gty (t := "str") B.str) a_nil)) B.isinstance) cd_eqB) fun _ => e_one (EE.eq (e_cmp (e_name 0 rfl) (e_name 1 rfl) (by walk_at "cd")) (by simp))) rfl (.head _) kq
theorem same_str {f : Addr} {cdv : Value} {A : Around} {outer : List Env} {s : Shared} {H0 : Hp} {E : XK} {M : Addr → Prop} {Q : VK} (B : Blt mg) (i : Str)
    (kq : ∀ v H', (∀ a, M a → H' a ≠ none) → Ext (dom []) H0 H' → (∀ p ∈ ([] : Cs), M p.1 ∧ Cell K mg M H' p.1 p.2) → R K mg M H' v (.bl true) → Q v H') :
    At (cxOf (L2.CX P w) P w K mg base ["_law_found", "_law_due", "_law_a", "_law_b"] "_law_same" (defScope sSame) f cdv A outer s H0 E) M [some (.str i), some (.str i), none, none] [] [(dom [], H0)]
      (wSs (cxOf (L2.CX P w) P w K mg base ["_law_found", "_law_due", "_law_a", "_law_b"] "_law_same" (defScope sSame) f cdv A outer s H0 E) (defBody sSame) { nx := fun _ H' => Q .non H', rt := Q }) := by
  refine at_if (t_val (e_blt (kd_isiT (t := "str") (n1 := "list") (n2 := "tuple") (b1 := false) (b2 := false) rfl (by decide +kernel) (by decide +kernel)) (a_cons (e_name 1 rfl) (a_cons (e_tup (a_cons (e_gty (t := "list") B.list) (a_cons (e_gty (t := "tuple") B.tuple) a_nil))) a_nil)) B.isinstance)) (fun h => by cases h) fun _ => at_nil ?_
  refine at_if (t_ew (t_or (t_isN (e_name 1 rfl)) fun _ => t_or1 (t_isN (e_name 0 rfl)))) (fun h => by cases h) fun _ => at_nil ?_
  refine at_if (t_ew (t_or (t_cmp (e_blt (kd_isi (t := "str") (n := "bool") (b := false) rfl (by decide +kernel)) (a_cons (e_name 1 rfl) (a_cons (e_gty (t := "bool") B.bool) a_nil)) B.isinstance) (e_blt (kd_isi (t := "str") (n := "bool") (b := false) rfl (by decide +kernel)) (a_cons (e_name 0 rfl) (a_cons (e_gty (t := "bool") B.bool) a_nil)) B.isinstance) cd_neB) fun _ => t_or1 (t_cmp (e_blt (kd_isi (t := "str") (n := "int") (b := false) rfl (by decide +kernel)) (a_cons (e_name 1 rfl) (a_cons (e_gty (t := "int") B.int) a_nil)) B.isinstance) (e_blt (kd_isi (t := "str") (n := "int") (b := false) rfl (by decide +kernel)) (a_cons (e_name 0 rfl) (a_cons (e_gty (t := "int") B.int) a_nil)) B.isinstance) cd_neB))) (fun h => by cases h) fun _ => at_nil ?_
  exact at_end (e_and (p0 := true) (q0 := true) (e_cmp (e_blt (kd_isi (t := "str") (n := "str") (b := true) rfl (by decide +kernel)) (a_cons (e_name 1 rfl) (a_cons (e_gty (t := "str") B.str) a_nil)) B.isinstance) (e_blt (kd_isi (t := "str") (n := "str") (b := true) rfl (by decide +kernel)) (a_cons (e_name 0 rfl) (a_cons (e_gty (t := "str") B.str) a_nil)) B.isinstance) cd_eqB) fun _ => e_one (EE.eq (e_cmp (e_name 0 rfl) (e_name 1 rfl) (by walk_at "cd")) (by simp))) rfl (.head _) kq
theorem same_non {f : Addr} {cdv : Value} {A : Around} {outer : List Env} {s : Shared} {H0 : Hp} {E : XK} {M : Addr → Prop} {Q : VK} (B : Blt mg)
    (kq : ∀ v H', (∀ a, M a → H' a ≠ none) → Ext (dom []) H0 H' → (∀ p ∈ ([] : Cs), M p.1 ∧ Cell K mg M H' p.1 p.2) → R K mg M H' v (.bl true) → Q v H') :
    At (cxOf (L2.CX P w) P w K mg base ["_law_found", "_law_due", "_law_a", "_law_b"] "_law_same" (defScope sSame) f cdv A outer s H0 E) M [some .non, some .non, none, none] [] [(dom [], H0)]
      (wSs (cxOf (L2.CX P w) P w K mg base ["_law_found", "_law_due", "_law_a", "_law_b"] "_law_same" (defScope sSame) f cdv A outer s H0 E) (defBody sSame) { nx := fun _ H' => Q .non H', rt := Q }) := by
  refine at_if (t_val (e_blt (kd_isiT (t := "NoneType") (n1 := "list") (n2 := "tuple") (b1 := false) (b2 := false) rfl (by decide +kernel) (by decide +kernel)) (a_cons (e_name 1 rfl) (a_cons (e_tup (a_cons (e_gty (t := "list") B.list) (a_cons (e_gty (t := "tuple") B.tuple) a_nil))) a_nil)) B.isinstance)) (fun h => by cases h) fun _ => at_nil ?_
  refine at_if (t_ew (t_or (t_isN (e_name 1 rfl)) fun _ => t_or1 (t_isN (e_name 0 rfl)))) (fun _ => ?_) (fun h => by cases h)
  exact at_end (e_and (p0 := true) (q0 := true) (EE.eq (x := .bl (isNonD .non)) (e_isN (e_name 1 rfl)) rfl) fun _ => e_one (EE.eq (x := .bl (isNonD .non)) (e_isN (e_name 0 rfl)) rfl)) rfl (.head _) kq
theorem ok_same {f : Addr} {fd : FuncData} (F : Fun K "_law_same" "_law_same" sSame f fd) (hm : mg "_law_same" = some (.ref f)) (hb : Binds K fd ["_law_found", "_law_due"] []) (B : Blt mg) : ∀ n, SameD P w K mg base n (3 + n) := by
  intro n
  induction n with
  | zero =>
    refine dfn_of F hm scSame hb (fun i => rfl) fun cdv A outer s H0 E d M Q hp hr kq => ?_
    cases d with
    | non => exact same_non B kq
    | bl i => exact same_bool B i kq
    | int i => exact same_int B i kq
    | str i => exact same_str B i kq
    | _ => exact hp.elim
  | succ n ih =>
    refine dfn_of F hm scSame hb (fun i => rfl) fun cdv A outer s H0 E d M Q hp hr kq => ?_
    cases d with
    | non => exact same_non B kq
    | bl i => exact same_bool B i kq
    | int i => exact same_int B i kq
    | str i => exact same_str B i kq
    | lst ds =>
      obtain ⟨hl, ha⟩ := hp
      refine at_if (t_val (e_blt (kd_isiT (t := "list") (n1 := "list") (n2 := "tuple") (b1 := true) (b2 := false) rfl (by decide +kernel) (by decide +kernel)) (a_cons (e_name 1 rfl) (a_cons (e_tup (a_cons (e_gty (t := "list") B.list) (a_cons (e_gty (t := "tuple") B.tuple) a_nil))) a_nil)) B.isinstance)) (fun _ => ?_) (fun h => by cases h)
      refine at_if (t_ew (t_or (t_cmp (e_blt (kd_isi (t := "list") (n := "list") (b := true) rfl (by decide +kernel)) (a_cons (e_name 0 rfl) (a_cons (e_gty (t := "list") B.list) a_nil)) B.isinstance) (e_blt (kd_isi (t := "list") (n := "list") (b := true) rfl (by decide +kernel)) (a_cons (e_name 1 rfl) (a_cons (e_gty (t := "list") B.list) a_nil)) B.isinstance) cd_neB) fun _ => t_or1 (t_cmp (e_blt (kd_isi (t := "list") (n := "tuple") (b := false) rfl (by decide +kernel)) (a_cons (e_name 0 rfl) (a_cons (e_gty (t := "tuple") B.tuple) a_nil)) B.isinstance) (e_blt (kd_isi (t := "list") (n := "tuple") (b := false) rfl (by decide +kernel)) (a_cons (e_name 1 rfl) (a_cons (e_gty (t := "tuple") B.tuple) a_nil)) B.isinstance) cd_neB))) (fun h => by cases h) fun _ => at_nil ?_
      refine at_end (e_and (p0 := true) (q0 := true) (EE.eq (e_cmp (e_blt kd_lenL (a_cons (e_name 0 rfl) a_nil) B.len) (e_blt kd_lenL (a_cons (e_name 1 rfl) a_nil) B.len) cd_eqI) (by simp)) fun _ => e_one (EE.eq (e_blt (kd_all (bs := ds.map fun _ => true)) (a_cons (EE.eq (e_lcM [("_law_a", 2), ("_law_b", 3)] ds (fun d => .tup [d, d]) (fun _ => D.bl true) (EI.eq (ei_zip (e_name 0 rfl) (e_name 1 rfl) B.zip) (pairs_self ds))
        (ctg_pair 2 3 scSame.nd (by decide) (by decide) rfl rfl) (fun d _ => ⟨d, d, rfl⟩) (Nat.le_trans hl (by decide))
        (fun d hd M' hM s2 H2 C2 cl2 fp2 => EE.eq (e_call ih hr (a_cons (e_name 2 rfl) (a_cons (e_name 3 rfl) a_nil)) d (ha d hd) rfl) rfl) (blkOk_by rfl) scSame.nd) (by simp)) a_nil) B.all) (by simp))) rfl (.head _) kq
    | tup ds =>
      obtain ⟨hl, ha⟩ := hp
      refine at_if (t_val (e_blt (kd_isiT (t := "tuple") (n1 := "list") (n2 := "tuple") (b1 := false) (b2 := true) rfl (by decide +kernel) (by decide +kernel)) (a_cons (e_name 1 rfl) (a_cons (e_tup (a_cons (e_gty (t := "list") B.list) (a_cons (e_gty (t := "tuple") B.tuple) a_nil))) a_nil)) B.isinstance)) (fun _ => ?_) (fun h => by cases h)
      refine at_if (t_ew (t_or (t_cmp (e_blt (kd_isi (t := "tuple") (n := "list") (b := false) rfl (by decide +kernel)) (a_cons (e_name 0 rfl) (a_cons (e_gty (t := "list") B.list) a_nil)) B.isinstance) (e_blt (kd_isi (t := "tuple") (n := "list") (b := false) rfl (by decide +kernel)) (a_cons (e_name 1 rfl) (a_cons (e_gty (t := "list") B.list) a_nil)) B.isinstance) cd_neB) fun _ => t_or1 (t_cmp (e_blt (kd_isi (t := "tuple") (n := "tuple") (b := true) rfl (by decide +kernel)) (a_cons (e_name 0 rfl) (a_cons (e_gty (t := "tuple") B.tuple) a_nil)) B.isinstance) (e_blt (kd_isi (t := "tuple") (n := "tuple") (b := true) rfl (by decide +kernel)) (a_cons (e_name 1 rfl) (a_cons (e_gty (t := "tuple") B.tuple) a_nil)) B.isinstance) cd_neB))) (fun h => by cases h) fun _ => at_nil ?_
      refine at_end (e_and (p0 := true) (q0 := true) (EE.eq (e_cmp (e_blt kd_lenT (a_cons (e_name 0 rfl) a_nil) B.len) (e_blt kd_lenT (a_cons (e_name 1 rfl) a_nil) B.len) cd_eqI) (by simp)) fun _ => e_one (EE.eq (e_blt (kd_all (bs := ds.map fun _ => true)) (a_cons (EE.eq (e_lcM [("_law_a", 2), ("_law_b", 3)] ds (fun d => .tup [d, d]) (fun _ => D.bl true) (EI.eq (ei_zipT (e_name 0 rfl) (e_name 1 rfl) B.zip) (pairs_self ds))
        (ctg_pair 2 3 scSame.nd (by decide) (by decide) rfl rfl) (fun d _ => ⟨d, d, rfl⟩) (Nat.le_trans hl (by decide))
        (fun d hd M' hM s2 H2 C2 cl2 fp2 => EE.eq (e_call ih hr (a_cons (e_name 2 rfl) (a_cons (e_name 3 rfl) a_nil)) d (ha d hd) rfl) rfl) (blkOk_by rfl) scSame.nd) (by simp)) a_nil) B.all) (by simp))) rfl (.head _) kq
    | _ => exact hp.elim
end
end Od

set_option Elab.async false
set_option linter.all false
set_option maxRecDepth 100000
set_option maxHeartbeats 4000000
/-! Lb: what the laws' own walks have in common, no formula in it. -/
namespace Od
open PySem L2 TL PySem.Spec
section
variable {X : Cx} {M : Addr → Prop} {e : DE} {cs cs1 cs2 cs3 : Cs} {pos p pos' apos : Pos} {a c ex o x : Expr}
theorem e_signs {ad : Addr} {b : Bag} {m : Int} {n k : Nat} (F : SignsD X.prog X.w X.K X.mg X.base k) (hr : Room k X.A) (ha : EE X M e cs a (.ref ad) cs) (hx : EE X M e cs x (.int m) cs1) (hm : m = n) (hu : Upd1 ad b.c (signsF b n).2.c cs1 cs2) (ok : b.Ok) (hn : n < 64) (hg : Gl X "_law_signs" := by rfl)
    (he : starEach [a, x] X.env = (false, eval a X.env) :: starEach [x] X.env := by rfl) (he2 : starEach [x] X.env = (false, eval x X.env) :: starEach [] X.env := by rfl) (hpl : (backTo pos (starEach [x] X.env)).any (·.1) = false := by rfl) : EE X M e cs (.Call (.Name "_law_signs" p) [a, x] [] pos) (.str (strOf (signsF b n).1)) cs2 :=
  e_call1 F hr (a_cons ha (a_cons hx a_nil he2) he) ⟨ad, b, n⟩ ⟨ok, hn⟩ (by rw [hm]) rfl rfl hu hg (by decide) he hpl
theorem e_same {d : D} {n k : Nat} (F : SameD X.prog X.w X.K X.mg X.base n k) (hr : Room k X.A) (hp : plD n d) (ha : EE X M e cs a d cs1) (hx : EE X M e cs1 x d cs2) (hg : Gl X "_law_same" := by rfl)
    (he : starEach [a, x] X.env = (false, eval a X.env) :: starEach [x] X.env := by rfl) (he2 : starEach [x] X.env = (false, eval x X.env) :: starEach [] X.env := by rfl) (hpl : (backTo pos (starEach [x] X.env)).any (·.1) = false := by rfl)
    (hv : ∀ whole, isTrue (.Call (.Name "_law_same" p) [a, x] [] pos) X.env whole = (do let v ← whole; standAt (Expr.pos (.Call (.Name "_law_same" p) [a, x] [] pos)); holding [v] (truthy v)) := by intro _; rfl) : ET X M e cs (.UnaryOp .Not (.Call (.Name "_law_same" p) [a, x] [] pos) pos') false cs2 :=
  t_not (k0 := true) (t_val (EE.eq (e_call F hr (a_cons ha (a_cons hx a_nil he2) he) d hp rfl hg (by decide) he hpl) rfl) hv)
end
/-! draws from written lists -/
def dpS (l : List Str) (b : Bag) : Str := l.getD (draw b l.length).1.toNat ""
theorem dpS_item {l : List Str} {b : Bag} (h : 0 < l.length) : itemD (.lst (l.map D.str)) (draw b l.length).1.toNat = .str (dpS l b) := by
  obtain ⟨_, h2⟩ := draw_ix (b := b) h
  show (l.map D.str).getD (draw b l.length).1.toNat .non = _
  simp [List.getD, dpS, h2]
theorem dpS_mem {l : List Str} {b : Bag} (h : 0 < l.length) : dpS l b ∈ l := by
  obtain ⟨_, h2⟩ := draw_ix (b := b) h
  simp [List.getD, dpS, h2]
theorem dpA_mem {l : List D} {b : Bag} (h : 0 < l.length) : itemD (.lst l) (draw b l.length).1.toNat ∈ l := by
  obtain ⟨_, h2⟩ := draw_ix (b := b) h
  show l.getD _ .non ∈ l
  simp [List.getD, h2]
theorem cutS_mem {s : Str} {lo hi : Option Int} {c : Nat} (h : c ∈ tl (cutS s lo hi)) : c ∈ tl s := by
  unfold cutS at h
  rw [tl_mk] at h
  exact List.mem_of_mem_drop (List.mem_of_mem_take h)
theorem flats_strs (l : List Str) : flats (l.map D.str) = some (l.map V.str) := by
  induction l with
  | nil => rfl
  | cons s l ih => simp [flats, flat, ih]
theorem flatV_strs (l : List Str) : (l.map V.str).all flatV = true := by simp [List.all_map, flatV]
@[simp] theorem tl_strOf (l : List Nat) : tl (strOf l) = l := rfl
/-- the empty table bears every name -/
theorem tab0 {K : PySem.W.Frag} {mg : Str → Option Value} {M : Addr → Prop} {H : Hp} {P : Addr} {q : Str} (h : H P = some (.tbl #[])) : Cell K mg M H P (.tab q) :=
  ⟨#[], h, by unfold TriplesOk; simp, fun pos cv hc => by simp [codeAmong] at hc⟩
end Od

set_option Elab.async false
set_option linter.all false
set_option maxRecDepth 100000
set_option maxHeartbeats 4000000
/-! Ps: the law's letters are ascending. -/
namespace Od
open PySem L2 TL PySem.Spec
theorem codes_nodup : ∀ f : Fin 26, ∀ st ∈ steps6, ∀ many : Fin 7, (codesF (f.val : Int) st many.val).Nodup := by decide +kernel
theorem signs_asc {b : Bag} (hb : b.Ok) {many : Nat} (h : many ≤ 6) : (signsF b many).1.Pairwise (· < ·) := by
  obtain ⟨h0, h26⟩ := draw_lo (b := b) (s := 26) (by decide)
  have hst : steps6.getD (draw (draw b 26).2 6).1.toNat 1 ∈ steps6 := by
    have := draw_lo (b := (draw b 26).2) (s := 6) (by decide)
    have hi : (draw (draw b 26).2 6).1.toNat < steps6.length := by show _ < 6; omega
    simp only [List.getD, List.getElem?_eq_getElem hi, Option.getD_some]
    exact List.getElem_mem hi
  have hn := codes_nodup ⟨(draw b 26).1.toNat, by omega⟩ _ hst ⟨many, by omega⟩
  have e : (((⟨(draw b 26).1.toNat, by omega⟩ : Fin 26).val : Nat) : Int) = (draw b 26).1 := by
    show (((draw b 26).1.toNat : Nat) : Int) = _
    omega
  rw [e] at hn
  have h2 : (signsF b many).1.Nodup := (srt_perm _).nodup_iff.mpr hn
  exact (List.pairwise_and_iff.mpr ⟨srt_sorted _, h2⟩).imp fun ⟨a, b⟩ => by omega
theorem signs_nd {b : Bag} (hb : b.Ok) {many : Nat} (h : many ≤ 6) : (signsF b many).1.Nodup := (signs_asc hb h).imp fun h => Nat.ne_of_lt h
end Od

set_option Elab.async false
set_option linter.all false
set_option maxRecDepth 100000
set_option maxHeartbeats 4000000
/-! LaT: _law_field, _law_try. -/
namespace Od
open PySem L2 L2H PyProof.Rows NdefX
abbrev sField : Stmt := top 28
abbrev sTry : Stmt := top 29
section
variable {P : Program} {w : World} {K : PySem.W.Frag} {mg : Str → Option Value} {base : Heap}
theorem scField : FnScope ["_law_e"] ["_law_e"] (defScope sField) := ⟨rfl, rfl, rfl, by decide +kernel, rfl, by decide +kernel, by decide +kernel⟩
theorem scTry : FnScope ["_law_ask", "_law_e"] ["_law_ask"] (defScope sTry) := ⟨rfl, rfl, rfl, by decide +kernel, rfl, by decide +kernel, by decide +kernel⟩
theorem fld_eq {c n : Str} {ns : List Str} {ds : List D} {i : Nat} {d : D} (h : fieldNm c = some n) (hi : ns.idxOf? n = some i) (hd : ds[i]? = some d) : d = fieldD c ns ds := by
  unfold fieldD
  simp only [h, hi, List.getD, hd, Option.getD_some]
theorem ok_field {f : Addr} {fd : FuncData} (F : Fun K "_law_field" "_law_field" sField f fd) (hm : mg "_law_field" = some (.ref f)) (hb : Binds K fd ["_law_e"] []) : FieldOk P w K mg base 1 := by
  refine ⟨f, hm, F.kp, fun A outer s H M a dd C oe x Q E hr hpin e0 hz hf mt r T kq => ?_⟩
  refine run_hot F scField hb hr hpin e0 (us := [.ref a]) (vs := [.ref a]) (.cons rfl .nil) rfl fun cdv hr2 => ?_
  have ea : ExcAt (cxH (L2.CX P w) P w K mg base ["_law_e"] "_law_field" (defScope sField) f cdv A outer s H E (a, oe)) a dd C := excAt_pin (oe := oe) (by simp [cxH]) hz hf
  have key : At (cxH (L2.CX P w) P w K mg base ["_law_e"] "_law_field" (defScope sField) f cdv A outer s H E (a, oe)) M [some (.exc a dd x.ns x.ds)] [] [([], H)] (wSs (cxH (L2.CX P w) P w K mg base ["_law_e"] "_law_field" (defScope sField) f cdv A outer s H E (a, oe)) (defBody sField) { nx := fun _ H' => Q .non H', rt := Q }) := by
    have code : ∀ {pos p : Pos}, EE (cxH (L2.CX P w) P w K mg base ["_law_e"] "_law_field" (defScope sField) f cdv A outer s H E (a, oe)) M [some (.exc a dd x.ns x.ds)] [] (.Attribute (.Name "_law_e" p) "code" pos) (.str (codeOf x)) [] := fun {pos p} => e_xat T.xf T.nc ea (e_name 0 rfl) 0 T.c0 T.d0
    have done : ∀ {n : Str} {pos p pos2 : Pos} {rest : List Stmt}, fieldNm (codeOf x) = some n → (attributeBase (.Name "_law_e" p) n (cxH (L2.CX P w) P w K mg base ["_law_e"] "_law_field" (defScope sField) f cdv A outer s H E (a, oe)).env (eval (.Name "_law_e" p) (cxH (L2.CX P w) P w K mg base ["_law_e"] "_law_field" (defScope sField) f cdv A outer s H E (a, oe)).env) = eval (.Name "_law_e" p) (cxH (L2.CX P w) P w K mg base ["_law_e"] "_law_field" (defScope sField) f cdv A outer s H E (a, oe)).env) →
        EE (cxH (L2.CX P w) P w K mg base ["_law_e"] "_law_field" (defScope sField) f cdv A outer s H E (a, oe)) M [some (.exc a dd x.ns x.ds)] [] (.Attribute (.Name "_law_e" p) n pos) (fieldD (codeOf x) x.ns x.ds) [] := fun {n pos p pos2 rest} hn hb => by
      obtain ⟨h1, i, d, h2, h3⟩ := T.fl n hn
      exact (e_xat T.xf h1 ea (e_name 0 rfl) i h2 h3 hb).eq (fld_eq hn h2 h3)
    refine at_if (b0 := inS (codeOf x) ["InvalidFormula", "InvalidLetters", "InvalidNode", "InvalidProfile", "InvalidLimit"]) (t_cmp code (e_tup (a_cons e_str (a_cons e_str (a_cons e_str (a_cons e_str (a_cons e_str a_nil)))))) (cd_inT rfl rfl rfl rfl)) (fun h1 => ?_) fun h1 => at_nil ?_
    · exact at_end (done (n := "given") (rest := []) (pos2 := ⟨0, 0, 0, 0⟩) (by unfold fieldNm; rw [if_pos h1]) rfl) rfl (.head _) kq
    refine at_if (b0 := inS (codeOf x) ["InvalidName", "DuplicateName", "WrongKind", "CircularName", "Oversized", "Refused", "UnknownName"]) (t_cmp code (e_tup (a_cons e_str (a_cons e_str (a_cons e_str (a_cons e_str (a_cons e_str (a_cons e_str (a_cons e_str a_nil)))))))) (cd_inT rfl rfl rfl rfl)) (fun h2 => ?_) fun h2 => at_nil ?_
    · exact at_end (done (n := "name") (rest := []) (pos2 := ⟨0, 0, 0, 0⟩) (by unfold fieldNm; rw [if_neg (by simp [h1]), if_pos h2]) rfl) rfl (.head _) kq
    refine at_if (b0 := inS (codeOf x) ["TooMany", "TooLong", "Full"]) (t_cmp code (e_tup (a_cons e_str (a_cons e_str (a_cons e_str a_nil)))) (cd_inT rfl rfl rfl rfl)) (fun h3 => ?_) fun h3 => at_nil ?_
    · exact at_end (done (n := "limit") (rest := []) (pos2 := ⟨0, 0, 0, 0⟩) (by unfold fieldNm; rw [if_neg (by simp [h1]), if_neg (by simp [h2]), if_pos h3]) rfl) rfl (.head _) kq
    refine at_if (b0 := inS (codeOf x) ["InvalidTree", "InvalidFilling"]) (t_cmp code (e_tup (a_cons e_str (a_cons e_str a_nil))) (cd_inT rfl rfl rfl rfl)) (fun h4 => ?_) fun h4 => at_nil ?_
    · have e4 : fieldNm (codeOf x) = if codeOf x = ("InvalidTree" : Str) then some ("index" : Str) else some ("key" : Str) := by unfold fieldNm; rw [if_neg (by simp [h1]), if_neg (by simp [h2]), if_neg (by simp [h3]), if_pos h4]
      exact at_end (e_if (t_cmp code e_str cd_eqS) rfl (fun q => done (n := "index") (rest := []) (pos2 := ⟨0, 0, 0, 0⟩) (by rw [e4, if_pos (of_decide_eq_true q)]) rfl) fun q => done (n := "key") (rest := []) (pos2 := ⟨0, 0, 0, 0⟩) (by rw [e4, if_neg (of_decide_eq_false q)]) rfl) rfl (.head _) kq
    refine at_if (b0 := inS (codeOf x) ["NotExtensible", "NotSolving"]) (t_cmp code (e_tup (a_cons e_str (a_cons e_str a_nil))) (cd_inT rfl rfl rfl rfl)) (fun h5 => ?_) fun h5 => at_nil ?_
    · have e4 : fieldNm (codeOf x) = if codeOf x = ("NotExtensible" : Str) then some ("meet" : Str) else some ("refuting" : Str) := by unfold fieldNm; rw [if_neg (by simp [h1]), if_neg (by simp [h2]), if_neg (by simp [h3]), if_neg (by simp [h4]), if_pos h5]
      exact at_end (e_if (t_cmp code e_str cd_eqS) rfl (fun q => done (n := "meet") (rest := []) (pos2 := ⟨0, 0, 0, 0⟩) (by rw [e4, if_pos (of_decide_eq_true q)]) rfl) fun q => done (n := "refuting") (rest := []) (pos2 := ⟨0, 0, 0, 0⟩) (by rw [e4, if_neg (of_decide_eq_false q)]) rfl) rfl (.head _) kq
    refine at_if (b0 := inS (codeOf x) ["NameInUse", "InvalidCommand"]) (t_cmp code (e_tup (a_cons e_str (a_cons e_str a_nil))) (cd_inT rfl rfl rfl rfl)) (fun h6 => ?_) fun h6 => at_nil ?_
    · have e4 : fieldNm (codeOf x) = if codeOf x = ("NameInUse" : Str) then some ("user" : Str) else some ("first" : Str) := by unfold fieldNm; rw [if_neg (by simp [h1]), if_neg (by simp [h2]), if_neg (by simp [h3]), if_neg (by simp [h4]), if_neg (by simp [h5]), if_pos h6]
      exact at_end (e_if (t_cmp code e_str cd_eqS) rfl (fun q => done (n := "user") (rest := []) (pos2 := ⟨0, 0, 0, 0⟩) (by rw [e4, if_pos (of_decide_eq_true q)]) rfl) fun q => done (n := "first") (rest := []) (pos2 := ⟨0, 0, 0, 0⟩) (by rw [e4, if_neg (of_decide_eq_false q)]) rfl) rfl (.head _) kq
    have e4 : fieldNm (codeOf x) = if codeOf x = ("InvalidPage" : Str) then some ("line" : Str) else none := by unfold fieldNm; rw [if_neg (by simp [h1]), if_neg (by simp [h2]), if_neg (by simp [h3]), if_neg (by simp [h4]), if_neg (by simp [h5]), if_neg (by simp [h6])]
    exact at_end (e_if (t_cmp code e_str cd_eqS) rfl (fun q => done (n := "line") (rest := []) (pos2 := ⟨0, 0, 0, 0⟩) (by rw [e4, if_pos (of_decide_eq_true q)]) rfl) fun q => e_non.eq (by unfold fieldD; rw [e4, if_neg (of_decide_eq_false q)])) rfl (.head _) kq
  exact key _ _ (sit_start (N := ["_law_e"]) (ds := [.exc a dd x.ns x.ds]) (c := []) mt (.cons r .nil) (by simp) (by simp)) (fun q hq => by
    rcases List.mem_singleton.mp hq with rfl
    exact Ext.refl _ _) (fun q hq b hb => by simp at hb)
/-- the classes that _law_try catches -/
structure Three (mg : Str → Option Value) : Prop where
  r : ∃ C, mg "RootError" = some (.ref C)
  m : ∃ C, mg "Missing" = some (.ref C)
  n : ∃ C, mg "NothingLeft" = some (.ref C)
theorem ok_try {f : Addr} {fd : FuncData} {kl : Nat} (F : Fun K "_law_try" "_law_try" sTry f fd) (hm : mg "_law_try" = some (.ref f)) (hb : Binds K fd ["_law_ask"] []) (T3 : Three mg) (FD : FieldOk P w K mg base 1) : TryOk P w K mg base kl (kl + 2) := by
  obtain ⟨⟨C1, m1⟩, ⟨C2, m2⟩, ⟨C3, m3⟩⟩ := T3
  refine ⟨f, hm, F.kp, fun A outer s H M v u L fr el ws cs cs' out Q E hr e0 rv hl hC nf hw mt cel nd FL hdm hct kq => ?_⟩
  refine run_cold (k := kl + 1) F scTry hb hr e0 (us := [u]) (vs := [v]) (.cons rv .nil) rfl fun cdv hr2 => ?_
  have S0 : Sit K mg M (L2.start ["_law_ask", "_law_e"] [v]) H [some (.lam L), none] cs := sit_start (N := ["_law_ask", "_law_e"]) (ds := [.lam L]) mt (.cons (by unfold R; exact hl) .nil) cel nd
  have n1 : Nm (cxOf (L2.CX P w) P w K mg base ["_law_ask", "_law_e"] "_law_try" (defScope sTry) f cdv A outer s H E) "RootError" C1 := ⟨rfl, by decide, m1⟩
  have n2 : Nm (cxOf (L2.CX P w) P w K mg base ["_law_ask", "_law_e"] "_law_try" (defScope sTry) f cdv A outer s H E) "Missing" C2 := ⟨rfl, by decide, m2⟩
  have n3 : Nm (cxOf (L2.CX P w) P w K mg base ["_law_ask", "_law_e"] "_law_try" (defScope sTry) f cdv A outer s H E) "NothingLeft" C3 := ⟨rfl, by decide, m3⟩
  have vi : Vis (cxOf (L2.CX P w) P w K mg base ["_law_ask", "_law_e"] "_law_try" (defScope sTry) f cdv A outer s H E).env.scope "_law_ask" := .inl rfl
  have capZ : ∀ pn xe, CapR ((cxOf (L2.CX P w) P w K mg base ["_law_ask", "_law_e"] "_law_try" (defScope sTry) f cdv A outer s H E).tr pn xe) (L2.start ["_law_ask", "_law_e"] [v]) L fr ws := fun pn xe pins s1 H1 I => ⟨CellsAt.later hC nf (fun y c _ h => by cases h) I, fun y c hc hm2 => by
    rcases List.mem_cons.mp (show c ∈ _ :: _ from hm2) with e | e
    · obtain ⟨_, v0, o, ho, _⟩ := hC.all y c hc
      have := Heap.lt_size ho
      rw [e] at this
      exact absurd this (Nat.lt_irrefl _)
    · exact nf y c hc e⟩
  refine wss_of (pss_one (ps_try3w (X := (cxOf (L2.CX P w) P w K mg base ["_law_ask", "_law_e"] "_law_try" (defScope sTry) f cdv A outer s H E)) (i := 1) (C1 := C1) (C2 := C2) (C3 := C3) (Wout := fun _ _ _ _ => False) rfl rfl scTry.nd rfl rfl n1 n2 n3 L2.takes0 (fun _ => rfl))) ?_
  intro pn xe tk
  refine wss_of (pss_one (ps_ret pe_w)) (we_of (pe_tup (pa_cons pe_str (pa_cons pe_w pa_nil rfl) rfl)) ?_)
  cases out with
  | ok d =>
    refine ask_raw FL hdm S0 (capZ pn xe) hw hr2 0 rfl rfl vi (by decide) (by decide) fun y H2 S2 x2 r2 => ⟨by rw [sizeLine_eq]; exact (by decide : 2 ≤ 16777216), fun p hp => ?_⟩
    have xn : Ext [] H2 (upd H2 p (.tup [.str "value", y])) := Ext.new hp
    exact kq _ _ (S2.ex xn).mt (x2.trans (xn.mono (by simp))) (fun q hq => (S2.ex xn).cel q hq) (r_newt S2.mt hp (.cons (by simp [R]) (.cons r2 .nil)))
  | err x =>
    refine xask_raw FL hdm tk S0 (capZ pn xe) hw hr2 0 rfl rfl vi (by decide) (by decide) fun cls dd H2 S2 x2 r2 => ?_
    obtain ⟨C, D1, D2, D3, g0, g1, g2, g3, g4, g5⟩ := hct
    have e1 := g1.symm.trans m1
    have e2 := g2.symm.trans m2
    have e3 := g3.symm.trans m3
    cases e1; cases e2; cases e3
    obtain ⟨C', ddA, xs, hmC, rfl, rfl, nM, hdd, hlen, hrs⟩ := r2
    have e0' := g0.symm.trans (show mg x.c = some (.ref C') from hmC)
    cases e0'
    refine ⟨true, g4, fun _ a na oe pn2 hz hf => ?_, fun h => by cases h⟩
    have S3 := S2.set 1 (v := .ref a) (d := .exc a ddA x.ns x.ds) (by unfold R; exact ⟨xs, rfl, nM, hdd, hlen, hrs⟩)
    have ea : ExcAt ((cxOf (L2.CX P w) P w K mg base ["_law_ask", "_law_e"] "_law_try" (defScope sTry) f cdv A outer s H E).suite a ((a, oe) :: pn2)) a ddA C := excAt_pin (oe := oe) (List.mem_cons_self ..) hz hf
    have room : RoomH 1 ((cxOf (L2.CX P w) P w K mg base ["_law_ask", "_law_e"] "_law_try" (defScope sTry) f cdv A outer s H E).suite a ((a, oe) :: pn2)).A := by
      have h := roomH_of (hr2.mono (show 1 ≤ kl + 1 by omega))
      exact ⟨h.dp, h.un⟩
    refine wss_of (pss_one (ps_ret pe_w)) ((e_tup (X := (cxOf (L2.CX P w) P w K mg base ["_law_ask", "_law_e"] "_law_try" (defScope sTry) f cdv A outer s H E).suite a ((a, oe) :: pn2)) (M := M) (e := [some (.lam L), some (.exc a ddA x.ns x.ds)]) (cs := cs') (a_cons (e_xat g5.xf g5.nc ea (e_name 1 rfl) 0 g5.c0 g5.d0) (a_cons (e_field (oe := oe) (dd := ddA) (C := C) (x := x) FD room (List.mem_cons_self ..) hz hf g5 (e_name 1 rfl)) a_nil))).k _ H2 _ S3 fun v3 H3 S4 x4 r4 => ?_)
    exact kq _ _ S4.mt (x2.trans (by rw [← hdm]; exact x4)) S4.cel r4
end
end Od

set_option Elab.async false
set_option linter.all false
set_option maxRecDepth 100000
set_option maxHeartbeats 4000000
/-! The program's errors, made (printed by gen_err.py). -/
namespace Od
open PySem L2
section
variable {P : Program} {w : World} {K : PySem.W.Frag} {mg : Str → Option Value} {C fI : Addr}
abbrev sX_InvalidText : Stmt := top 4
abbrev sXI_InvalidText : Stmt := inClass sX_InvalidText 0
theorem err_InvalidText (mC : mg "InvalidText" = some (.ref C)) (T : Ox.SupC P K C fI) (I : Ox.SupI P K C fI "InvalidText.__init__" (defArgs sXI_InvalidText) (defBody sXI_InvalidText) (defScope sXI_InvalidText)) : Ox.Err0 P w K mg "InvalidText" "InvalidText" C :=
  Ox.err0_of (fl := "") mC T I ⟨⟨_, fun _ _ _ => rfl⟩, fun _ _ _ => rfl, fun _ _ _ => rfl, fun _ _ _ => rfl⟩ (fun _ _ _ _ _ _ _ => rfl)
abbrev sX_NotShared : Stmt := top 8
abbrev sXI_NotShared : Stmt := inClass sX_NotShared 0
theorem err_NotShared (mC : mg "NotShared" = some (.ref C)) (T : Ox.SupC P K C fI) (I : Ox.SupI P K C fI "NotShared.__init__" (defArgs sXI_NotShared) (defBody sXI_NotShared) (defScope sXI_NotShared)) : Ox.Err0 P w K mg "NotShared" "NotShared" C :=
  Ox.err0_of (fl := "") mC T I ⟨⟨_, fun _ _ _ => rfl⟩, fun _ _ _ => rfl, fun _ _ _ => rfl, fun _ _ _ => rfl⟩ (fun _ _ _ _ _ _ _ => rfl)
abbrev sX_InvalidLetters : Stmt := top 5
abbrev sXI_InvalidLetters : Stmt := inClass sX_InvalidLetters 0
theorem err_InvalidLetters (mC : mg "InvalidLetters" = some (.ref C)) (T : Ox.SupC P K C fI) (I : Ox.SupI P K C fI "InvalidLetters.__init__" (defArgs sXI_InvalidLetters) (defBody sXI_InvalidLetters) (defScope sXI_InvalidLetters)) (nfl : PySem.W.findIn K (.ref C) "given" = some none) : Ox.Err1 P w K mg "InvalidLetters" "InvalidLetters" "given" C :=
  Ox.err1_of mC T I ⟨⟨_, fun _ _ _ => rfl⟩, fun _ _ _ => rfl, fun _ _ _ => rfl, fun _ _ _ => rfl, fun _ _ _ => rfl⟩ rfl nfl (by decide) (by decide) (fun _ _ _ _ _ _ _ _ => rfl)
/-- an error of one field is caught and told -/
theorem caught1' {c code fl : Str} {C1 C2 C3 : Addr} (mC : mg c = some (.ref C)) (m1 : mg "RootError" = some (.ref C1)) (m2 : mg "Missing" = some (.ref C2)) (m3 : mg "NothingLeft" = some (.ref C3)) (hx : PySem.W.exmAny K (.ref C) [.ref C1, .ref C2, .ref C3] = some true) (xf : XfC K C) (nc : PySem.W.findIn K (.ref C) "code" = some none) (nfl : PySem.W.findIn K (.ref C) fl = some none)
    (hf : fieldNm code = some fl) (hi : (["code", fl] : List Str).idxOf? fl = some 1) (d : D) : Caught K mg (.err ⟨c, ["code", fl], [.str code, d]⟩) :=
  ⟨C, C1, C2, C3, mC, m1, m2, m3, hx, ⟨xf, rfl, rfl, nc, fun n hn => by
    have e : n = fl := by
      have : fieldNm code = some n := hn
      rw [hf] at this
      exact (Option.some.inj this).symm
    subst e
    exact ⟨nfl, 1, d, hi, rfl⟩⟩⟩
/-- an error without a field -/
theorem caught0' {c code : Str} {C1 C2 C3 : Addr} (mC : mg c = some (.ref C)) (m1 : mg "RootError" = some (.ref C1)) (m2 : mg "Missing" = some (.ref C2)) (m3 : mg "NothingLeft" = some (.ref C3)) (hx : PySem.W.exmAny K (.ref C) [.ref C1, .ref C2, .ref C3] = some true) (xf : XfC K C) (nc : PySem.W.findIn K (.ref C) "code" = some none)
    (hf : fieldNm code = none) : Caught K mg (.err ⟨c, ["code"], [.str code]⟩) :=
  ⟨C, C1, C2, C3, mC, m1, m2, m3, hx, ⟨xf, rfl, rfl, nc, fun n hn => by
    have h : fieldNm code = some n := hn
    rw [hf] at h
    cases h⟩⟩
theorem tryD_err1 {c code fl : Str} (d : D) (h : fieldNm code = some fl) (h2 : (["code", fl] : List Str).idxOf? fl = some 1) : tryD (.err ⟨c, ["code", fl], [.str code, d]⟩) = .tup [.str code, d] := by
  show D.tup [.str code, fieldD code ["code", fl] [.str code, d]] = _
  unfold fieldD
  rw [h]
  show D.tup [.str code, match (["code", fl] : List Str).idxOf? fl with | none => .non | some i => ([.str code, d] : List D).getD i .non] = _
  rw [h2]
  rfl
theorem tryD_err0 {c code : Str} (h : fieldNm code = none) : tryD (.err ⟨c, ["code"], [.str code]⟩) = .tup [.str code, .non] := by
  show D.tup [.str code, fieldD code ["code"] [.str code]] = _
  unfold fieldD
  rw [h]
end
end Od

set_option Elab.async false
set_option linter.all false
set_option maxRecDepth 100000
set_option maxHeartbeats 4000000
/-! Ol10: a def that takes one lambda and asks it through _law_try (_law_code); lambdas that capture a comprehension's name. -/
namespace Od
open PySem L2 L2H LamX PyProof.Rows NdefX
/-- what the first item of a told outcome is -/
def codeD : Out → Str
  | .ok _ => "value"
  | .err x => codeOf x
theorem tryD_code (out : Out) : ∃ d, tryD out = .tup [.str (codeD out), d] := by
  cases out with
  | ok d => exact ⟨d, rfl⟩
  | err x => exact ⟨_, rfl⟩
theorem lookup_memS {y : Str} {c : Addr} : ∀ {l : List (Str × Addr)}, l.lookup y = some c → (y, c) ∈ l
  | [], h => by simp at h
  | (n, d) :: r, h => by
    rw [List.lookup_cons] at h
    split at h
    next hn =>
      cases h
      rw [eq_of_beq hn]
      exact List.mem_cons_self ..
    · exact List.mem_cons_of_mem _ (lookup_memS h)
structure CodeOk (P : Program) (w : World) (K : PySem.W.Frag) (mg : Str → Option Value) (base : Heap) (kl k : Nat) : Prop where
  ex : ∃ f, mg "_law_code" = some (.ref f) ∧ PySem.W.keepIn K (.ref f) = true ∧ ∀ (A : Around) (outer : List Env) (s : Shared) (H : Hp) (M : Addr → Prop) (v : V) (u : Value) (L : LamF) (fr : List Str) (el : DE) (ws : List (Option V)) (cs cs' : Cs) (out : Out) (Q : VK) (E : XK), Room k A → Env0 P w K mg base A outer s H → L2.RelV v u → Lams M H v L →
    CellsAt L.cl fr ws s.heap H → (∀ y c, L.cl.lookup y = some c → c ∉ frs outer) → Holds K mg M H el ws → (∀ a, M a → H a ≠ none) → (∀ p ∈ cs, M p.1 ∧ Cell K mg M H p.1 p.2) → (dom cs).Nodup → LamOk P w K mg base kl L fr M el cs out cs' → dom cs' = dom cs → Caught K mg out → OutK K mg M (dom cs) H cs' Q E (.ok (.str (codeD out))) →
    codeAny (model P w) A (.call (.ref f) ⟨[u], []⟩) (CR (L2.CX P w) outer P w H s Q E) s
section
variable {X : Cx} {M : Addr → Prop} {e : DE} {cs cs1 cs2 cs' : Cs} {pos p lpos : Pos} {a ex body : Expr} {d dv : D} {n q : Str} {k kl : Nat} {L : LamF} {fr : List Str} {el : DE} {out : Out} {c P : Addr} {x : Xc} {scope : Scope} {params : Arguments}
theorem code_raw {σ : L2.St} {H : Hp} {Q : VK} {ws : List (Option V)} (T : CodeOk X.prog X.w X.K X.mg X.base kl k) (hr : Room k X.A) (ha : EE X M e cs a (.lam L) cs1) (F : LamOk X.prog X.w X.K X.mg X.base kl L fr M el cs1 out cs2) (hdm : dom cs2 = dom cs1) (S : Sit X.K X.mg M σ H e cs) (cp : CapR X σ L fr ws) (hw : Holds X.K X.mg M H el ws) (hct : Caught X.K X.mg out) (hg : Gl X "_law_code") (he : starEach [a] X.env = (false, eval a X.env) :: starEach [] X.env)
    (k : ∀ v H', Sit X.K X.mg M σ H' e cs2 → Ext (dom cs) H H' → R X.K X.mg M H' v (.str (codeD out)) → Q v H') : wE X (.Call (.Name "_law_code" p) [a] [] pos) σ H Q := fun pins s I => by
    obtain ⟨f, hm, hk, run⟩ := T.ex
    refine wpAny_Call_Name_kw (ld_glob I hg hm ?_ (by decide))
    refine PySem.W.callWith_K (h₀ := X.base) I.ok.mod.kin hk ?_ he rfl
    rw [he]
    refine PySem.Calls.spliced_cons (thn (ha.k σ H (fun v H1 => Sit X.K X.mg M σ H1 e cs1 ∧ Ext (dom cs) H H1 ∧ R X.K X.mg M H1 v (.lam L)) S (fun v H1 S1 x1 r1 => ⟨S1, x1, r1⟩) pins s I) fun u s1 ⟨v, H1, I1, rv, S1, x1, r1⟩ => ?_)
    refine PySem.Calls.spliced_nil ⟨I1.kIn, ?_⟩
    obtain ⟨c1, c2⟩ := cp _ _ _ I1
    have hw1 : Holds X.K X.mg M H1 el ws := hw.ext (S.keeps x1) fun _ n _ => n
    refine wpAny_call (codeAny_mono (run X.A X.stack s1 H1 M v u L fr el ws cs1 cs2 out Q E0 hr I1.env0 rv (by unfold R at r1; exact r1) c1 c2 hw1 S1.mt S1.cel S1.nd F hdm hct (fun v H' mt xt cl rv => k v H' (S1.step hdm xt mt cl) (x1.trans (by rw [← ha.dm]; exact xt)) rv)) fun r s' hq => ?_)
    cases r with
    | error er => exact (L2.passL (X := X) pins σ H1 s1 er s' I1 hq)
    | ok fl => cases fl with
      | ret u => exact I1.after hq
      | _ => exact hq.elim
/-- no captured cell is a frame -/
theorem capR_own {σ : L2.St} {js : List Nat} {scope : Scope} (hcl : L.cl = cloFrom X.env.cells scope.names []) (cp : X.Ok → Caps X L.cl fr js) (hfn : ∀ y, (y, NameKind.free) ∈ scope.names → X.fn y = true) : CapR X σ L fr (js.map (slotAt σ)) := fun pins s H' I => ⟨cells_of I (cp I.ok), fun y c h hm => by
  have hm1 : (y, c) ∈ L.cl := lookup_memS h
  rw [hcl] at hm1
  have hy : X.fn y = true := (cloFrom_mem hm1).elim (fun z => by simp at z) fun z => hfn y z.1
  have h2 := (cp I.ok).sub y c h
  rcases List.mem_cons.mp (I.stkSub c hm) with z | z
  · exact I.cne y c h2 z
  · obtain ⟨_, o, ho, _⟩ := I.ok.funs.mem z
    have := I.ok.cab y c hy h2
    exact absurd (Heap.lt_size ho) (Nat.not_lt.mpr this)⟩
def fnB (X : Cx) (names : List (Str × NameKind)) : Bool := names.all fun y => !decide (y.2 = .free) || X.fn y.1
theorem fnB_of {names : List (Str × NameKind)} (h : fnB X names = true) : ∀ y, (y, NameKind.free) ∈ names → X.fn y = true := fun y hy => by
  have := List.all_eq_true.mp h (y, .free) hy
  simpa using this
/-- _law_code(lambda: ..) in the def, or the comprehension, that makes the lambda -/
theorem e_code (N fr : List Str) (js : List Nat) (el : DE) (out : Out) (T : CodeOk X.prog X.w X.K X.mg X.base kl k) (hr : Room k X.A) (TL : LamAt X c P) (hin : (P, MC.tab q) ∈ cs)
    (F : ∀ (A : Around) (outer : List Env) (s : Shared) (H : Hp) (E : XK) (f c' : Addr), Room kl (A.deeper (envF (nfOf (lamOf X q params body scope []) c') f s.heap.objs.size)) → match out with
      | .ok d => EE (lcx X.prog X.w X.K X.mg X.base N (lamOf X q params body scope []) c' f A outer s H E) M (el ++ List.replicate (N.length - el.length) none) cs body d cs2
      | .err x => EX (lcx X.prog X.w X.K X.mg X.base N (lamOf X q params body scope []) c' f A outer s H E) M (el ++ List.replicate (N.length - el.length) none) cs body x cs2)
    (hdm : dom cs2 = dom cs) (hct : Caught X.K X.mg out) (hd : D.str (codeD out) = dv) (hjs : js.map (fun j => (e[j]?).getD none) = el := by rfl) (hq : q = X.env.qual ++ "<lambda>" := by rfl) (hN : NoPar params := by exact ⟨rfl, rfl, rfl, rfl, rfl⟩) (hsc : nscB N [] fr scope = true := by kernel_rfl) (hlen : el.length = fr.length := by rfl)
    (hfree : freeB scope.names X.env.scope.names = true := by kernel_rfl) (hfr : frB fr scope.names = true := by kernel_rfl) (hat : js.map (fun j => X.N[j]?) = fr.map some := by rfl) (hdef : defaultsOf params X.env = ([], []) := by rfl) (hfn : fnB X scope.names = true := by rfl) (hg : Gl X "_law_code" := by rfl)
    (he : starEach [.Lambda params body scope lpos] X.env = (false, eval (.Lambda params body scope lpos) X.env) :: starEach [] X.env := by rfl) : EE X M e cs (.Call (.Name "_law_code" p) [.Lambda params body scope lpos] [] pos) dv cs2 where
  dm := hdm
  k := fun σ H Q S k => by
    subst hd hjs
    exact code_raw T hr (e_lam0 TL hin hq (freeB_of hfree) hdef) (lamOk_of (out := out) hN rfl hsc hlen F) hdm S (capR_own rfl (fun ok => Caps.made ok (freeB_of hfree) (frB_of hfr) hat) (fnB_of hfn)) (holds_js S) hct hg he k
theorem ask0V (N fr : List Str) (js : List Nat) (el : DE) {vs : List Nat} (F : ∀ M' : Addr → Prop, (∀ a, M a → M' a) → ∀ (A : Around) (outer : List Env) (s : Shared) (H : Hp) (E : XK) (f c' : Addr), Room kl (A.deeper (envF (nfOf (lamOf X q params body scope []) c') f s.heap.objs.size)) → EE (lcx X.prog X.w X.K X.mg X.base N (lamOf X q params body scope []) c' f A outer s H E) M' (el ++ List.replicate (N.length - el.length) none) cs body d cs)
    (hjs : js.map (fun j => (e[j]?).getD none) = el := by rfl) (hjv : ∀ j ∈ js, j ∉ vs := by decide) (hN : NoPar params := by exact ⟨rfl, rfl, rfl, rfl, rfl⟩) (hsc : nscB N [] fr scope = true := by kernel_rfl) (hlen : el.length = fr.length := by rfl)
    (hfree : freeB scope.names X.env.scope.names = true := by kernel_rfl) (hfr : frB fr scope.names = true := by kernel_rfl) (hat : js.map (fun j => X.N[j]?) = fr.map some := by rfl) : Ask X kl M e vs cs (lamOf X q params body scope []) (.ok d) :=
  ⟨fr, js, el, hjs, hjv, fun ok => Caps.made ok (freeB_of hfree) (frB_of hfr) hat, fun M' hM => lamOk_of (out := .ok d) hN rfl hsc hlen (F M' hM), trivial⟩
theorem ask1V (N fr : List Str) (js : List Nat) (el : DE) {vs : List Nat} {i : Int} {ar : Arg} (F : ∀ M' : Addr → Prop, (∀ a, M a → M' a) → ∀ (A : Around) (outer : List Env) (s : Shared) (H : Hp) (E : XK) (f c' : Addr), Room kl (A.deeper (envF (nfOf (lamOf X q params body scope [i]) c') f s.heap.objs.size)) → EE (lcx X.prog X.w X.K X.mg X.base N (lamOf X q params body scope [i]) c' f A outer s H E) M' (some (.int i) :: (el ++ List.replicate (N.length - 1 - el.length) none)) cs body d cs)
    (hjs : js.map (fun j => (e[j]?).getD none) = el := by rfl) (hjv : ∀ j ∈ js, j ∉ vs := by decide) (hN : OnePar params ar := by exact ⟨rfl, rfl, rfl, rfl, rfl⟩) (hsc : nscB N [ar.arg] fr scope = true := by kernel_rfl) (hlen : el.length = fr.length := by rfl)
    (hfree : freeB scope.names X.env.scope.names = true := by kernel_rfl) (hfr : frB fr scope.names = true := by kernel_rfl) (hat : js.map (fun j => X.N[j]?) = fr.map some := by rfl) : Ask X kl M e vs cs (lamOf X q params body scope [i]) (.ok d) :=
  ⟨fr, js, el, hjs, hjv, fun ok => Caps.made ok (freeB_of hfree) (frB_of hfr) hat, fun M' hM => lamOk_of1 (out := .ok d) hN rfl hsc hlen (F M' hM), trivial⟩
end
end Od

set_option Elab.async false
set_option linter.all false
set_option maxRecDepth 100000
set_option maxHeartbeats 4000000
/-! Ol11: _law_try(e), e any expression that gives a lambda of this frame. -/
namespace Od
open PySem L2
section
variable {X : Cx} {M : Addr → Prop} {e : DE} {cs : Cs} {pos p : Pos} {a : Expr} {L : LamF} {out : Out} {kl k : Nat} {vs : List Nat}
theorem e_tryA (T : TryOk X.prog X.w X.K X.mg X.base kl k) (hr : Room k X.A) (ha : EE X M e cs a (.lam L) cs) (A : Ask X kl M e vs cs L out) (hfn : ∀ y, X.fn y = true := by intro _; rfl) (hg : Gl X "_law_try" := by rfl)
    (he : starEach [a] X.env = (false, eval a X.env) :: starEach [] X.env := by rfl) : EE X M e cs (.Call (.Name "_law_try" p) [a] [] pos) (tryD out) cs := by
  obtain ⟨fr, js, el, h1, h2, h3, h4, h5⟩ := A
  exact e_try T hr ha h1 (h4 M fun _ h => h) rfl h3 h5 rfl hfn hg he
/-- name = e, where e changes nothing -/
theorem at_setS {fr : Frs} {rest : List Stmt} {D0 : Ends} {pos' : Pos} {ex : Expr} {d : D} {n : Str} (i : Nat) (ha : EE X M e cs ex d cs) (k : At X M (e.set i (some d)) cs fr (wSs X rest D0)) (hN : X.N.Nodup) (hi : X.N[i]? = some n := by rfl) (hx : Loc X.env.scope n := by first | exact .inl rfl | exact .inr rfl)
    (hs : swapsWith ex (some (.Name n pos')) pos.line X.env = pure false := by rfl) (hf : X.fn n = true ∨ X.env.scope.names.lookup n = some .local := by first | exact .inl rfl | exact .inr rfl) : At X M e cs fr (wSs X (.Assign [.Name n pos'] ex pos :: rest) D0) := at_set i ha k hN hi hx hs hf
/-- an if whose test changes nothing, and whose branches meet again -/
theorem at_ifS {fr : Frs} {rest st st2 : List Stmt} {D0 : Ends} {c : Expr} {b0 : Bool} (e2 : DE) (hc : ET X M e cs c b0 cs) (ht : b0 = true → At X M e2 cs fr (wSs X rest D0) → At X M e cs fr (wSs X st { D0 with nx := wSs X rest D0 })) (hf : b0 = false → At X M e2 cs fr (wSs X rest D0) → At X M e cs fr (wSs X st2 { D0 with nx := wSs X rest D0 })) (k : At X M e2 cs fr (wSs X rest D0)) : At X M e cs fr (wSs X (.If c st st2 pos :: rest) D0) := at_if hc (fun h => ht h k) (fun h => hf h k)
end
end Od

set_option Elab.async false
set_option linter.all false
set_option maxRecDepth 100000
set_option maxHeartbeats 4000000
/-! Pt7: rows compared. -/
namespace Od
open PySem L2 TL PySem.Spec
def optP : Option Int → PyData
  | none => .none
  | some i => .int i
def rowP (r : Row) : PyData := .tuple [.str (strOf r.1), optP r.2]
theorem toPy_opt (p : Option Int) : toPy (optD p) = some (optP p) := by cases p <;> rfl
theorem toPy_row (r : Row) : toPy (Row.d r) = some (rowP r) := by
  show toPy (.tup [.str (strOf r.1), optD r.2]) = _
  simp only [toPy, toPys, toPy_opt, Option.bind_some, Option.map_some]
  rfl
theorem toPys_rows (l : List Row) : toPys (l.map Row.d) = some (l.map rowP) := by
  induction l with
  | nil => rfl
  | cons r l ih => simp only [List.map_cons, toPys, toPy_row, ih, Option.bind_some, Option.map_some]
theorem toPy_rows (l : List Row) : toPy (rowsD l) = some (.list (l.map rowP)) := by
  show toPy (.lst (l.map Row.d)) = _
  simp only [toPy, toPys_rows, Option.map_some]
theorem toPys_rowss (l : List (List Row)) : toPys (l.map rowsD) = some (l.map fun t => .list (t.map rowP)) := by
  induction l with
  | nil => rfl
  | cons r l ih => simp only [List.map_cons, toPys, toPy_rows, ih, Option.bind_some, Option.map_some]
theorem strOf_inj {a b : List Nat} : strOf a = strOf b ↔ a = b := ⟨fun h => (congrArg tl h : tl (strOf a) = tl (strOf b)), fun h => by rw [h]⟩
theorem eqv_opt (p q : Option Int) : PyData.eqv (optP p) (optP q) = decide (p = q) := by
  cases p <;> cases q <;> simp [optP, PyData.eqv]
  rw [Bool.eq_iff_iff]; simp
theorem eqv_row (r s : Row) : PyData.eqv (rowP r) (rowP s) = decide (r = s) := by
  obtain ⟨a, p⟩ := r
  obtain ⟨b, q⟩ := s
  show PyData.eqvAll [.str (strOf a), optP p] [.str (strOf b), optP q] = _
  simp only [PyData.eqvAll, PyData.eqv, eqv_opt]
  rw [Bool.eq_iff_iff]
  simp [strOf_inj]
theorem eqv_rows : ∀ l m : List Row, PyData.eqvAll (l.map rowP) (m.map rowP) = decide (l = m)
  | [], [] => by simp [PyData.eqvAll]
  | _ :: _, [] => by simp [PyData.eqvAll]
  | [], _ :: _ => by simp [PyData.eqvAll]
  | a :: l, b :: m => by
    simp only [List.map_cons, PyData.eqvAll, eqv_row, eqv_rows l m]
    rw [Bool.eq_iff_iff]; simp
theorem eqv_rowss : ∀ l m : List (List Row), PyData.eqvAll (l.map fun t => .list (t.map rowP)) (m.map fun t => .list (t.map rowP)) = decide (l = m)
  | [], [] => by simp [PyData.eqvAll]
  | _ :: _, [] => by simp [PyData.eqvAll]
  | [], _ :: _ => by simp [PyData.eqvAll]
  | a :: l, b :: m => by
    have h : PyData.eqv (.list (a.map rowP)) (.list (b.map rowP)) = decide (a = b) := eqv_rows a b
    simp only [List.map_cons, PyData.eqvAll, h, eqv_rowss l m]
    rw [Bool.eq_iff_iff]; simp
/-- letters that are letters -/
def RowsCp (l : List Row) : Prop := ∀ r ∈ l, ∀ c ∈ r.1, c < 1114112
theorem lay_row {r : Row} (h : ∀ c ∈ r.1, c < 1114112) : PyData.canLay0 (rowP r) = true := by
  obtain ⟨a, p⟩ := r
  have h1 : PyData.strOk (strOf a) = true := by
    simp only [PyData.strOk, strOf, List.all_toArray, List.all_eq_true, decide_eq_true_eq]
    exact h
  cases p <;> simp [rowP, optP, PyData.canLay0, PyData.canLayAll0, h1]
theorem lay_rows : ∀ {l : List Row}, RowsCp l → PyData.canLayAll0 (l.map rowP) = true
  | [], _ => rfl
  | r :: l, h => by
    simp only [List.map_cons, PyData.canLayAll0, lay_row (h r (by simp)), lay_rows (l := l) fun r hr => h r (by simp [hr]), Bool.and_self]
theorem dep_rowP (r : Row) : PyData.depth (rowP r) = 1 := by
  obtain ⟨a, p⟩ := r
  cases p <;> rfl
theorem dep_rows (l : List Row) : PyData.depthAll (l.map rowP) ≤ 1 := by
  induction l with
  | nil => simp [PyData.depthAll]
  | cons r l ih => simp only [List.map_cons, PyData.depthAll, dep_rowP]; omega
theorem shaped_rows {l : List Row} (h : RowsCp l) : PySem.SeqAt.shaped (.list (l.map rowP)) = true := by
  have h1 := dep_rows l
  have h2 : PyData.depth (.list (l.map rowP)) ≤ 64 := by rw [PyData.depth]; omega
  unfold PySem.SeqAt.shaped
  rw [Bool.and_eq_true]
  exact ⟨by simpa [PyData.canLay0] using lay_rows h, decide_eq_true h2⟩
theorem shaped_rowss {l : List (List Row)} (h : ∀ t ∈ l, RowsCp t) : PySem.SeqAt.shaped (.list (l.map fun t => .list (t.map rowP))) = true := by
  have h1 : ∀ l : List (List Row), (∀ t ∈ l, RowsCp t) → PyData.canLayAll0 (l.map fun t => .list (t.map rowP)) = true ∧ PyData.depthAll (l.map fun t => PyData.list (t.map rowP)) ≤ 2 := by
    intro l
    induction l with
    | nil => intro _; exact ⟨rfl, by simp [PyData.depthAll]⟩
    | cons t l ih =>
      intro h
      obtain ⟨i1, i2⟩ := ih fun t ht => h t (by simp [ht])
      have := dep_rows t
      refine ⟨?_, ?_⟩
      · simp only [List.map_cons, PyData.canLayAll0, PyData.canLay0, lay_rows (h t (by simp)), i1, Bool.and_self]
      · simp only [List.map_cons, PyData.depthAll, PyData.depth]; omega
  obtain ⟨h2, h3⟩ := h1 l h
  have h4 : PyData.depth (.list (l.map fun t => .list (t.map rowP))) ≤ 64 := by rw [PyData.depth]; omega
  unfold PySem.SeqAt.shaped
  rw [Bool.and_eq_true]
  exact ⟨by simpa [PyData.canLay0] using h2, decide_eq_true h4⟩
theorem rowsCp_ok {l : List Row} (h : okRows [] l = true) : RowsCp l := fun r hr c hc => by
  obtain ⟨i, hi, e⟩ := List.mem_iff_getElem.mp hr
  have h1 := ok_lets (k := i) h
  have h2 : rowAt l i = r := by unfold rowAt; rw [List.getElem?_eq_getElem hi, e]; rfl
  rw [h2] at h1
  have h3 := (lets_iff.mp h1).1 c hc
  obtain ⟨j, hj, rfl⟩ := List.mem_map.mp (show c ∈ alpha from h3)
  have := List.mem_range.mp hj
  omega
section
variable {X : Cx}
theorem cd_neRowss {l m : List (List Row)} (hu : X.A.units + 64 < cLine) (h1 : ∀ t ∈ l, RowsCp t) (h2 : ∀ t ∈ m, RowsCp t) : CmpD X .NotEq (.lst (l.map rowsD)) (.lst (m.map rowsD)) (!decide (l = m)) :=
  (cd_neD hu (p := .list (l.map fun t => .list (t.map rowP))) (q := .list (m.map fun t => .list (t.map rowP))) (by simp [toPy, toPys_rowss]) (by simp [toPy, toPys_rowss]) (shaped_rowss h1) (shaped_rowss h2)).eq (by simp only [PyData.eqv]; rw [eqv_rowss])
theorem cd_eqRows {l m : List Row} (hu : X.A.units + 64 < cLine) (h1 : RowsCp l) (h2 : RowsCp m) : CmpD X .Eq (rowsD l) (rowsD m) (decide (l = m)) :=
  (cd_eqD hu (toPy_rows l) (toPy_rows m) (shaped_rows h1) (shaped_rows h2)).eq (by simp only [PyData.eqv]; rw [eqv_rows])
end
end Od

set_option Elab.async false
set_option linter.all false
set_option maxRecDepth 100000
set_option maxHeartbeats 4000000
/-! Lk13: the walk of law k13. -/
namespace Od
open PySem L2 TL PySem.Spec LamX
local macro_rules
  | `(tactic| walk_at "bd") => `(tactic| first | exact bd_add | exact bd_sub | exact bd_mulR (by decide) | exact bd_mulL (by decide) | exact bd_mod (by decide) | exact bd_div (by decide))
local macro_rules
  | `(tactic| walk_at "le") => `(tactic| repeat (first | exact LeD.nil | apply LeD.drop | apply LeD.same))
abbrev sLaw : Stmt := top 34
abbrev LawPre (ns : List Int) : Prop := ns.length ≤ 63
abbrev nmL : List Str := ["_law_script", "_law_bag", "_law_turn", "_law_signs_here", "_law_some", "_law_made", "_law_many", "_law_known", "_law_asks", "_law_told", "_law_due", "_law_mine", "_law_first", "_law_odd", "_law_k", "_law_sign", "_law_row", "_law_one_here"]
theorem scLaw : FnScope nmL ["_law_script"] (defScope sLaw) := ⟨rfl, rfl, rfl, by decide +kernel, rfl, by decide +kernel, by decide +kernel⟩
abbrev cxL (P : Program) (w : World) (K : PySem.W.Frag) (mg : Str → Option Value) (base : Heap) (f c : Addr) (A : Around) (outer : List Env) (s : Shared) (H0 : Hp) (E : XK) : Cx := cxOf (L2.CX P w) P w K mg base nmL "law" (defScope sLaw) f (.ref c) A outer s H0 E
abbrev qn : Str := (("law" : Str) ++ ".<locals>.") ++ "<lambda>"
structure Kit (P : Program) (w : World) (K : PySem.W.Frag) (mg : Str → Option Value) (base : Heap) : Prop where
  B : Blt mg
  cells : CellsD P w K mg base 2
  draw : DrawD P w K mg base 3
  one : OneD P w K mg base 4
  signs : SignsD P w K mg base 5
  rows : RowsD P w K mg base 4
  ltree : LTreeD P w K mg base 10 21
  nodes : TM0 P w K mg base "nodes" rowsD 1
  text : TextT P w K mg base 10 15
  leaf : LeafT P w K mg base 8
  join : JoinT P w K mg base 8
  joinX : JoinX P w K mg base 6
  same : ∀ n, SameD P w K mg base n (3 + n)
  try' : TryOk P w K mg base 8 10
  caughtS : Caught K mg (.err badSh)
  caughtL : ∀ d, Caught K mg (.err (badLt d))
def oddL : List D := [.str "ba", .str "aa", .str "A", .non, .int 3]
theorem oddL_is : ∀ d ∈ oddL, ValD d ∧ isLetsV d = false ∧ plD 0 d := fun d hd => by
  simp only [oddL, List.mem_cons, List.not_mem_nil, or_false] at hd
  rcases hd with rfl | rfl | rfl | rfl | rfl
  · exact ⟨by show _ ≤ 1000; decide +kernel, by decide +kernel, by simp [plD]⟩
  · exact ⟨by show _ ≤ 1000; decide +kernel, by decide +kernel, by simp [plD]⟩
  · exact ⟨by show _ ≤ 1000; decide +kernel, by decide +kernel, by simp [plD]⟩
  · exact ⟨trivial, rfl, by simp [plD]⟩
  · exact ⟨trivial, rfl, by simp [plD]⟩
theorem nil_str : ("" : Str) = strOf [] := by decide +kernel
theorem plD_rows (rows : List Row) (h : rows.length ≤ 1000) (n : Nat) : plD (n + 2) (rowsD rows) := by
  refine ⟨by rw [List.length_map]; exact h, fun d hd => ?_⟩
  obtain ⟨r, _, rfl⟩ := List.mem_map.mp hd
  refine ⟨by simp, fun d hd => ?_⟩
  simp only [List.mem_cons, List.not_mem_nil, or_false] at hd
  rcases hd with rfl | rfl
  · simp [plD]
  · cases r.2 <;> simp [optD, plD]
theorem tryD_badSh : tryD (.err badSh) = .tup [.str "NotShared", .non] := tryD_err0 (by decide +kernel)
theorem tryD_badLt (d : D) : tryD (.err (badLt d)) = .tup [.str "InvalidLetters", d] := tryD_err1 d (by decide +kernel) (by decide +kernel)
section
variable {P : Program} {w : World} {K : PySem.W.Frag} {mg : Str → Option Value} {base : Heap}
theorem ok_law {f c PT : Addr} {oc kV doc pm ct : Value} {od an : Option Addr} {osl : Array (Option Value)} (lk : K.lookup f = some ⟨oc, od, .func (PySem.W.fnOf "law" "law" (defArgs sLaw) (defBody sLaw) (defScope sLaw) .none kV doc pm an (.ref c) ct), osl⟩) (hcd : PySem.W.codeIn K (.ref c) "law" = true) (TB : TabB base mg c PT) (T : Kit P w K mg base) :
    FnOk P w K mg base (L2.CX P w) 41 f (PySem.W.fnOf "law" "law" (defArgs sLaw) (defBody sLaw) (defScope sLaw) .none kV doc pm an (.ref c) ct) ["_law_script"] (fnSp K mg LawPre (fun ns => [.scr ns]) (fun _ => [(PT, .tab qn)]) (fun _ => .bl true) (fun _ => [(PT, .tab qn)])) := by
  refine fnokC_of (k := 40) lk hcd scLaw (fun i => rfl) fun A outer s H0 E ns M Q hp hr hM kq => ?_
  have B := T.B
  have z : ∀ n : Nat, n ≤ 100000 → n ≤ sizeLine := fun n h => Nat.le_trans h (by decide)
  have hu : (cxL P w K mg base f c A outer s H0 E).A.units + 64 < cLine := show (A.deeper (PyProof.Rows.envOfC "law" (defScope sLaw) s.heap.objs.size f (.ref c))).units + 64 < cLine by have := hr.un; omega
  have TL : LamAt (cxL P w K mg base f c A outer s H0 E) c PT := ⟨TB, rfl⟩
  refine at_setN 1 T.cells (hr.mono (by decide)) (a_cons (e_name 0 rfl) a_nil) ns hp rfl (fun q => ?_) scLaw.nd
  refine at_eqC (cs2 := [(q, (bag0 ns).c), (PT, .tab qn)]) ?_ rfl
  refine at_for (α := fun _ => Bag) (ds := (ups 0 6).map D.int) (fun _ b => b.Ok) (fun _ b => [some (.scr ns), some (.ref q), none, none, none, none, none, none, none, none, none, none, none, none, none, none, none, none]) (fun _ b => [(q, b.c), (PT, .tab qn)])
    (EI.eq (ei_rng1 e_int B.range (by decide)) rfl) (ltg_name 2 scLaw.nd) (fun _ _ => trivial) (bag0 ns) (bag0_ok ns) rfl rfl (fun _ _ _ => rfl) (fun i d b H1 hd ok => ?_) fun b ok => ?_
  · have o2 := signsF_ok ok 3
    have hle : letsB (signsF b 3).1 = true := lets_iff.mpr ⟨signsF_alpha, signs_asc ok (by decide)⟩
    refine at_set 3 (d := .str (strOf (signsF b 3).1)) (cs1 := [(q, (signsF b 3).2.c), (PT, .tab qn)]) (e_signs T.signs (hr.mono (by decide)) (e_name 1 rfl) e_int rfl .here ok (by decide)) ?_ scLaw.nd
    generalize signsF b 3 = S at o2 hle
    refine at_lcS 4 [("_law_k", 14)] (List.range 3) (fun (k : Nat) => D.int (k : Int)) (fun j => [(q, (bagT S.2 S.1 4 j).c), (PT, .tab qn)]) (fun j => rowsD (treeT S.2 S.1 4 j)) (EI.eq (ei_rng1 e_int B.range (by decide)) (by simp [ups])) (ctg_name 14 scLaw.nd (by decide) rfl) (fun _ _ => trivial) (by simp) rfl (fun _ => rfl)
      (fun j x hx M' hM' s2 H2 C2 cl2 fp2 => EE.eq (e_call1 T.rows (hr.mono (by decide)) (a_cons (e_name 1 rfl) (a_cons (e_name 3 rfl) (a_cons e_int a_nil))) (⟨q, bagT S.2 S.1 4 j, S.1, 4⟩ : RwI) (RwI.Pre.mk (bagT_ok o2 S.1 4 j) hle (by show 0 < 4; decide) (by show 4 ≤ 500; decide)) rfl rfl rfl .here) rfl) (blkOk_by rfl) scLaw.nd ?_
    refine at_eqC (cs2 := [(q, (bagT S.2 S.1 4 3).c), (PT, .tab qn)]) ?_ rfl
    have R3 : ∀ j, RowsOk 10 (treeT S.2 S.1 4 j) ∧ (treeT S.2 S.1 4 j).length ≤ 4 := fun j => by
      obtain ⟨f, h1, h2, h3, h4, h5, h6, h7⟩ := rowsF_tree (bagT_ok o2 S.1 4 j) hle (most := 4) (by decide)
      have hd := dep_size f
      have ht := txt_len f [] h2
      have h3' : treeT S.2 S.1 4 j = f.flat 0 none := h3
      exact ⟨⟨⟨f, ⟨h1, h2, by omega, by omega, by omega⟩, h3'⟩⟩, by rw [h3', flat_len]; omega⟩
    have ob := bagT_ok o2 S.1 4 3
    generalize hr0 : treeT S.2 S.1 4 = tr at R3
    generalize bagT S.2 S.1 4 3 = B1 at ob
    refine at_eqE (e2 := [some (.scr ns), some (.ref q), some d, some (.str (strOf S.1)), some (.lst ([tr 0, tr 1, tr 2].map rowsD)), none, none, none, none, none, none, none, none, none, none, none, none, none]) ?_ (by rw [← hr0]; rfl)
    have hmade : ∀ t ∈ [tr 0, tr 1, tr 2], RowsOk 10 t := fun t ht => by
      simp only [List.mem_cons, List.not_mem_nil, or_false] at ht
      rcases ht with rfl | rfl | rfl <;> exact (R3 _).1
    refine at_set 5 (d := .lst ([tr 0, tr 1, tr 2].map treeO)) (cs1 := [(q, B1.c), (PT, .tab qn)]) ?ee ?kk scLaw.nd
    case ee =>
      refine EE.eq (e_lcM (X := cxL P w K mg base f c A outer s H0 E) [("_law_mine", 11)] [tr 0, tr 1, tr 2] rowsD treeO (ei_list (e_name 4 rfl)) (ctg_name 11 scLaw.nd (by decide) rfl) (fun _ _ => trivial) (by simp) (fun t ht M' hM' s2 H2 C2 cl2 fp2 => EE.eq (e_call T.ltree (hr.mono (by decide)) (a_cons (e_name 11 rfl) a_nil) t (hmade t ht) rfl) rfl) (blkOk_by rfl) scLaw.nd) rfl
    obtain ⟨m0, m1⟩ := draw_lo (b := B1) (s := 4) (by decide)
    have o4 := draw_ok ob 4
    refine at_set 6 (d := .int (draw B1 4).1) (cs1 := [(q, (draw B1 4).2.c), (PT, .tab qn)]) (e_draw T.draw (hr.mono (by decide)) (e_name 1 rfl) e_int .here ob (by decide)) ?_ scLaw.nd
    generalize draw B1 4 = D4 at m0 m1 o4
    have o5 := draw_ok o4 4
    obtain ⟨n, hn, hn4⟩ : ∃ n : Nat, D4.1 = (n : Int) ∧ n < 4 := ⟨D4.1.toNat, by omega, by omega⟩
    rw [hn]
    obtain ⟨B2, hB2⟩ : ∃ B2, D4.2 = B2 := ⟨_, rfl⟩
    rw [hB2] at o4 o5 ⊢
    have o6 := o5
    obtain ⟨D5, hD5⟩ : ∃ D5, draw B2 4 = D5 := ⟨_, rfl⟩
    -- the trees taken
    obtain ⟨u, hu0⟩ : ∃ u : Nat → List Row, u = fun i => if D5.1 = 0 then tr 0 else tr i := ⟨_, rfl⟩
    have RU : ∀ j, RowsOk 10 (u j) ∧ (u j).length ≤ 4 := fun j => by
      rw [hu0]
      dsimp only
      split
      · exact R3 _
      · exact R3 _
    rw [hD5] at o6
    refine at_ifJ (b0 := decide (D5.1 = 0)) (cs1 := [(q, D5.2.c), (PT, .tab qn)]) [some (.scr ns), some (.ref q), some d, some (.str (strOf S.1)), some (.lst ([u 0, u 1, u 2].map rowsD)), some (.lst ([u 0, u 1, u 2].map treeO)), some (.int (n : Int)), none, none, none, none, none, none, none, none, none, none, none] [(q, D5.2.c), (PT, .tab qn)]
      (ET.eq (t_cmp (e_draw T.draw (hr.mono (by decide)) (e_name 1 rfl) e_int (by rw [hD5]; exact .here) o4 (by decide)) e_int cd_eqI) (by rw [hD5])) (fun h0 k => ?_) (fun h0 k => ?_) ?_
    · have h0 : D5.1 = 0 := of_decide_eq_true h0
      have hu1 : ∀ i, u i = tr 0 := fun i => by rw [hu0]; exact if_pos h0
      rw [hu1, hu1, hu1] at k
      refine at_unp2 (x := .lst ([tr 0, tr 0, tr 0].map rowsD)) (y := .lst ([tr 0, tr 0, tr 0].map treeO)) (cs1 := [(q, D5.2.c), (PT, .tab qn)]) 4 5 (e_tup (a_cons (EE.eq (e_bin (e_lst (a_cons (e_ix (e_name 4 rfl) e_int (xd_lst (j := 0) rfl rfl)) a_nil)) e_int (bd_rep (by show 1 * 3 ≤ 100000; decide) (by decide))) rfl) (a_cons (EE.eq (e_bin (e_lst (a_cons (e_ix (e_name 5 rfl) e_int (xd_lst (j := 0) rfl rfl)) a_nil)) e_int (bd_rep (by show 1 * 3 ≤ 100000; decide) (by decide))) rfl) a_nil))) ?_ scLaw.nd
      exact at_nil (at_go k (by walk_at "le") rfl)
    · have h0 : ¬ D5.1 = 0 := of_decide_eq_false h0
      have hu1 : ∀ i, u i = tr i := fun i => by rw [hu0]; exact if_neg h0
      rw [hu1, hu1, hu1] at k
      exact at_nil (at_go k (by walk_at "le") rfl)
    obtain ⟨t0, ht0⟩ : ∃ t0, u 0 = t0 := ⟨_, rfl⟩
    obtain ⟨t1, ht1⟩ : ∃ t1, u 1 = t1 := ⟨_, rfl⟩
    obtain ⟨t2, ht2⟩ : ∃ t2, u 2 = t2 := ⟨_, rfl⟩
    have RUs : ∀ t ∈ [t0, t1, t2], RowsOk 10 t ∧ t.length ≤ 4 := fun t ht => by
      rw [← ht0, ← ht1, ← ht2] at ht
      simp only [List.mem_cons, List.not_mem_nil, or_false] at ht
      rcases ht with rfl | rfl | rfl <;> exact RU _
    rw [ht0, ht1, ht2]
    clear ht0 ht1 ht2 hu0 RU u
    -- the root's letters
    have hcl := lets_len hle
    have sgs : (signs (strOf S.1)).map D.str = S.1.map fun c => D.str (sg c) := by
      show ((S.1.map sg)).map D.str = _
      simp
    have hselS : ∀ (b : Bag) (j c : Nat), S.1[j]? = some c → (selF [] 2 b (S.1.take (j + 1))).2 = (draw (selF [] 2 b (S.1.take j)).2 2).2 := fun b j c hc => by
      rw [selF_take hc]
      unfold sel1
      rw [if_neg (by simp)]
      split <;> rfl
    have hsub := (selF_spec [] 2 D5.2 S.1).1
    refine at_set 7 (d := .str (strOf (selF [] 2 D5.2 S.1).1)) (cs1 := [(q, (selF [] 2 D5.2 S.1).2.c), (PT, .tab qn)]) (EE.eq (e_join (ts := (selF [] 2 D5.2 S.1).1.map sg) (join_len0 _ ?l1) e_str (EE.eq (EE.cq (e_lcFS [("_law_sign", 15)] S.1 (fun c => D.str (sg c)) (fun i => [(q, (selF [] 2 D5.2 (S.1.take i)).2.c), (PT, .tab qn)]) (keepS [] 2 D5.2 S.1) (fun i => D.str (sg (S.1.getD i 0))) (EI.eq (ei_str (e_name 3 rfl)) sgs) (ctg_name 15 scLaw.nd (by decide) rfl) (fun _ _ => trivial) (by omega) rfl (fun _ => rfl)
      (fun j c hc M' hM s2 H2 C2 cl2 fp2 => ?test) (fun j c hc hk M' hM s2 H2 C2 cl2 fp2 => ?turn) (blkOk_by rfl) scLaw.nd) (by rw [List.take_length])) ?outs)) (by rw [join_sg]; rfl)) ?_ scLaw.nd
    case l1 =>
      have := hsub.length_le
      omega
    case test =>
      rw [hselS D5.2 j c hc]
      refine ET.eq (t_cmp (e_draw T.draw (hr.mono (by decide)) (e_name 1 rfl) e_int .here (selF_ok o6 _) (by decide)) e_int cd_eqI) ?_
      unfold keepS
      rw [hc]
      simp
    case turn =>
      refine EE.eq (e_name 15 rfl) ?_
      simp [List.getD, hc]
    case outs => rw [outs_sel _ _ _ _ _ (Nat.le_refl _), List.take_length]
    have o7 := selF_ok (mem := []) (m := 2) o6 S.1
    have hkl : letsB (selF [] 2 D5.2 S.1).1 = true := lets_iff.mpr ⟨fun c hc => (lets_iff.mp hle).1 c (hsub.subset hc), List.Pairwise.sublist hsub (lets_iff.mp hle).2⟩
    generalize selF [] 2 D5.2 S.1 = KN at o7 hkl
    obtain ⟨kn, B5⟩ := KN
    dsimp only at o7 hkl ⊢
    have JP : ∀ m, JnPre kn ([t0, t1, t2].take m) := fun m => ⟨hkl, fun t ht => by
      obtain ⟨h1, h2⟩ := RUs t (List.mem_of_mem_take ht)
      obtain ⟨k1, k2, k3, k4⟩ := h1.out
      exact ⟨k1, k2, by omega⟩, by rw [List.length_take]; exact Nat.le_trans (Nat.min_le_right _ _) (show 3 ≤ 5 by decide)⟩
    have JT := fun m => T.join kn ([t0, t1, t2].take m) (JP m)
    have inT : (PT, MC.tab qn) ∈ [(q, B5.c), (PT, .tab qn)] := List.mem_cons_of_mem _ (List.mem_cons_self ..)
    have cau : ∀ m, Caught (cxL P w K mg base f c A outer s H0 E).K (cxL P w K mg base f c A outer s H0 E).mg (outJ kn ([t0, t1, t2].take m)) := fun m => by
      unfold outJ
      split
      · trivial
      · exact T.caughtS
    refine at_setL 8 (cs1 := [(q, B5.c), (PT, .tab qn)]) (a_cons (e_lam0' TL inT) (a_cons (e_lam1' (i := 0) TL inT) (a_cons (e_lam1' (i := 0) TL inT) a_nil))) (by simp) (fun r nr => ?_) scLaw.nd
    have inT2 : ∀ xs, (PT, MC.tab qn) ∈ [(r, .lst xs), (q, B5.c), (PT, .tab qn)] := fun xs => List.mem_cons_of_mem _ (List.mem_cons_of_mem _ (List.mem_cons_self ..))
    refine at_expr (d := .non) (e_app (e_name 8 rfl) ⟨_, .head _⟩ (e_lam0' TL (inT2 _)) .here (by show 3 < 100000; decide)) ?_
    refine at_setS 9 (d := tryD (outJ kn ([t0, t1, t2].take n))) ?e9 ?k9 scLaw.nd
    case e9 =>
      have J0 := JT 0; have J1 := JT 1; have J2 := JT 2; have J3 := JT 3
      have hn' : n = 0 ∨ n = 1 ∨ n = 2 ∨ n = 3 := by omega
      have c0 := cau 0; have c1 := cau 1; have c2 := cau 2; have c3 := cau 3
      rcases hn' with rfl | rfl | rfl | rfl
      · refine e_tryA (vs := []) T.try' (hr.mono (by decide)) (e_ixc (j := 0) (e_name 8 rfl) (e_name 6 rfl) (.head _) rfl rfl) ?_
        cases ho : outJ kn ([t0, t1, t2].take 0) with
        | ok d1 =>
          rw [ho] at J0
          exact ask0V (vs := []) ["_law_known"] ["_law_known"] [7] [some (.str (strOf kn))] (fun M' hM A outer s H E f c' hr2 => e_sm J0 hr2 (a_cons (e_name 0 rfl) a_nil) sw0)
        | err x1 =>
          rw [ho] at J0 c0
          exact ask0X (vs := []) ["_law_known"] ["_law_known"] [7] [some (.str (strOf kn))] (fun M' hM A outer s H E f c' hr2 => x_sm J0 hr2 (a_cons (e_name 0 rfl) a_nil) sw0) c0
      · refine e_tryA (vs := []) T.try' (hr.mono (by decide)) (e_ixc (j := 1) (e_name 8 rfl) (e_name 6 rfl) (.head _) rfl rfl) ?_
        cases ho : outJ kn ([t0, t1, t2].take 1) with
        | ok d1 =>
          rw [ho] at J1
          exact ask1V (vs := []) ["_law_a", "_law_known", "_law_made"] ["_law_known", "_law_made"] [7, 5] [some (.str (strOf kn)), some (.lst ([t0, t1, t2].map treeO))] (fun M' hM A outer s H E f c' hr2 => e_sm J1 hr2 (a_cons (e_name 1 rfl) (a_cons (e_ix (e_name 2 rfl) e_int (xd_lst (j := 0) rfl rfl)) a_nil)) sw0)
        | err x1 =>
          rw [ho] at J1 c1
          exact ask1X (vs := []) ["_law_a", "_law_known", "_law_made"] ["_law_known", "_law_made"] [7, 5] [some (.str (strOf kn)), some (.lst ([t0, t1, t2].map treeO))] (fun M' hM A outer s H E f c' hr2 => x_sm J1 hr2 (a_cons (e_name 1 rfl) (a_cons (e_ix (e_name 2 rfl) e_int (xd_lst (j := 0) rfl rfl)) a_nil)) sw0) c1
      · refine e_tryA (vs := []) T.try' (hr.mono (by decide)) (e_ixc (j := 2) (e_name 8 rfl) (e_name 6 rfl) (.head _) rfl rfl) ?_
        cases ho : outJ kn ([t0, t1, t2].take 2) with
        | ok d1 =>
          rw [ho] at J2
          exact ask1V (vs := []) ["_law_b", "_law_known", "_law_made"] ["_law_known", "_law_made"] [7, 5] [some (.str (strOf kn)), some (.lst ([t0, t1, t2].map treeO))] (fun M' hM A outer s H E f c' hr2 => e_sm J2 hr2 (a_cons (e_name 1 rfl) (a_cons (e_ix (e_name 2 rfl) e_int (xd_lst (j := 0) rfl rfl)) (a_cons (e_ix (e_name 2 rfl) e_int (xd_lst (j := 1) rfl rfl)) a_nil))) sw0)
        | err x1 =>
          rw [ho] at J2 c2
          exact ask1X (vs := []) ["_law_b", "_law_known", "_law_made"] ["_law_known", "_law_made"] [7, 5] [some (.str (strOf kn)), some (.lst ([t0, t1, t2].map treeO))] (fun M' hM A outer s H E f c' hr2 => x_sm J2 hr2 (a_cons (e_name 1 rfl) (a_cons (e_ix (e_name 2 rfl) e_int (xd_lst (j := 0) rfl rfl)) (a_cons (e_ix (e_name 2 rfl) e_int (xd_lst (j := 1) rfl rfl)) a_nil))) sw0) c2
      · refine e_tryA (vs := []) T.try' (hr.mono (by decide)) (e_ixc (j := 3) (e_name 8 rfl) (e_name 6 rfl) (.head _) rfl rfl) ?_
        cases ho : outJ kn ([t0, t1, t2].take 3) with
        | ok d1 =>
          rw [ho] at J3
          exact ask0V (vs := []) ["_law_known", "_law_made"] ["_law_known", "_law_made"] [7, 5] [some (.str (strOf kn)), some (.lst ([t0, t1, t2].map treeO))] (fun M' hM A outer s H E f c' hr2 => e_sm J3 hr2 (a_cons (e_name 0 rfl) (a_cons (e_ix (e_name 1 rfl) e_int (xd_lst (j := 0) rfl rfl)) (a_cons (e_ix (e_name 1 rfl) e_int (xd_lst (j := 1) rfl rfl)) (a_cons (e_ix (e_name 1 rfl) e_int (xd_lst (j := 2) rfl rfl)) a_nil)))) sw0)
        | err x1 =>
          rw [ho] at J3 c3
          exact ask0X (vs := []) ["_law_known", "_law_made"] ["_law_known", "_law_made"] [7, 5] [some (.str (strOf kn)), some (.lst ([t0, t1, t2].map treeO))] (fun M' hM A outer s H E f c' hr2 => x_sm J3 hr2 (a_cons (e_name 0 rfl) (a_cons (e_ix (e_name 1 rfl) e_int (xd_lst (j := 0) rfl rfl)) (a_cons (e_ix (e_name 1 rfl) e_int (xd_lst (j := 1) rfl rfl)) (a_cons (e_ix (e_name 1 rfl) e_int (xd_lst (j := 2) rfl rfl)) a_nil)))) sw0) c3
    case k9 =>
    generalize hts : [t0, t1, t2].take n = ts at JT cau
    have RT : ∀ t ∈ ts, RowsOk 10 t ∧ t.length ≤ 4 := fun t ht => RUs t (by rw [← hts] at ht; exact List.mem_of_mem_take ht)
    have htl : ts.length ≤ 3 := by rw [← hts, List.length_take]; exact Nat.min_le_right _ _
    refine at_set 10 (d := .lst [Row.d (kn, none)]) (e_lst (a_cons (e_tup (a_cons (e_name 7 rfl) (a_cons e_non a_nil))) a_nil)) ?_ scLaw.nd
    have inR : ∀ xs, (PT, MC.tab qn) ∈ [(r, .lst xs), (q, B5.c), (PT, .tab qn)] := fun xs => List.mem_cons_of_mem _ (List.mem_cons_of_mem _ (List.mem_cons_self ..))
    refine at_for (α := fun _ => Unit) (ds := ts.map rowsD) (fun _ _ => True) (fun i _ => [some (.scr ns), some (.ref q), some d, some (.str (strOf S.1)), some (.lst ([t0, t1, t2].map rowsD)), some (.lst ([t0, t1, t2].map treeO)), some (.int (n : Int)), some (.str (strOf kn)), some (.ref r), some (tryD (outJ kn ts)), some (.lst ((joinF kn (ts.take i)).map Row.d)), none, none, none, none, none, none, none]) (fun _ _ => _)
      (EI.eq (ei_list (e_slice (e_name 4 rfl) o_none (o_some (e_name 6 rfl)) sd_lst)) (by rw [cut_take, ← List.map_take, hts])) (ltg_name 11 scLaw.nd) (fun _ _ => trivial) () trivial rfl rfl (fun _ _ _ => rfl) (fun i d2 u2 H2 hd2 _ => ?_) fun u2 _ => ?_
    · obtain ⟨t, ht, rfl⟩ : ∃ t, ts[i]? = some t ∧ d2 = rowsD t := by
        rw [List.getElem?_map] at hd2
        cases h : ts[i]? with
        | none => rw [h] at hd2; cases hd2
        | some t => rw [h] at hd2; exact ⟨t, rfl, (Option.some.inj hd2).symm⟩
      obtain ⟨r1, r2⟩ := RT t (List.mem_of_getElem? ht)
      have htk : ts.take (i + 1) = ts.take i ++ [t] := by rw [List.take_add_one, ht]; rfl
      have hjl := joinF_len kn 4 (ts.take i) fun t h => (RT t (List.mem_of_mem_take h)).2
      have hti : (ts.take i).length ≤ 3 := by rw [List.length_take]; omega
      have hJ1 : joinF kn (ts.take (i + 1)) = joinF kn (ts.take i) ++ t.map (shift (joinF kn (ts.take i)).length) := by rw [htk, joinF_snoc]
      generalize joinF kn (ts.take i) = J at hjl hJ1
      refine at_set 12 (d := .int (J.length : Nat)) (EE.eq (e_blt kd_lenL (a_cons (e_name 10 rfl) a_nil) B.len) (by rw [List.length_map])) ?_ scLaw.nd
      refine at_set 10 (d := .lst ((J ++ t.map (shift J.length)).map Row.d)) (EE.eq (e_bin (e_name 10 rfl) (e_lcM [("_law_row", 16)] t Row.d (fun r => Row.d (shift J.length r)) (ei_list (e_name 11 rfl)) (ctg_name 16 scLaw.nd (by decide) rfl) (fun _ _ => trivial) (by omega)
        (fun x hx M' hM' s2 H2 C2 cl2 fp2 => by
          obtain ⟨k, p⟩ := x
          refine EE.eq (y := Row.d (shift J.length (k, p))) (e_tup (a_cons (e_ix (e_name 16 rfl) e_int (xd_tup (j := 0) rfl rfl)) (a_cons (e_if (p0 := isNonD (optD p)) (t_isN (e_ix (e_name 16 rfl) e_int (xd_tup (j := 1) rfl rfl))) rfl (fun h => EE.eq (y := optD (shift J.length (k, p)).2) e_int ?n1) (fun h => EE.eq (y := optD (shift J.length (k, p)).2) (e_bin (x := .int (J.length : Nat)) (y := .int (p.getD 0)) (e_name 12 rfl) (EE.eq (e_ix (e_name 16 rfl) e_int (xd_tup (j := 1) rfl rfl)) ?n2) bd_add) ?n3)) a_nil))) rfl
          case n1 =>
            cases p with
            | none => rfl
            | some p => cases h
          case n2 =>
            cases p with
            | none => cases h
            | some p => rfl
          case n3 =>
            cases p with
            | none => cases h
            | some p => rfl) (blkOk_by rfl) scLaw.nd) (bd_addL (by rw [List.length_map, List.length_map]; omega))) (by simp)) ?_ scLaw.nd
      refine at_nil (at_go (at_inv (e := [some (.scr ns), some (.ref q), some d, some (.str (strOf S.1)), some (.lst ([t0, t1, t2].map rowsD)), some (.lst ([t0, t1, t2].map treeO)), some (.int (n : Int)), some (.str (strOf kn)), some (.ref r), some (tryD (outJ kn ts)), some (.lst ((J ++ t.map (shift J.length)).map Row.d)), none, none, none, none, none, none, none]) () trivial ?_ rfl) (by walk_at "le") rfl)
      rw [hJ1]
    rw [List.length_map, List.take_length]
    have hjl := joinF_len kn 4 ts fun t h => (RT t h).2
    have hok : okJ kn ts = true → okRows [] (joinF kn ts) = true := fun h => joinF_ok hkl ts fun t ht => ⟨(RT t ht).1.out.1, (RT t ht).1.out.2.1, List.all_eq_true.mp h t ht⟩
    have hJp := (joinF_head kn ts).2
    have htd : ∀ b, okJ kn ts = b → tryD (outJ kn ts) = if b then .tup [.str "value", treeO (joinF kn ts)] else .tup [.str "NotShared", .non] := fun b h => by
      unfold outJ
      rw [h]
      cases b with
      | true => rfl
      | false => exact tryD_badSh
    generalize hJ : joinF kn ts = J at hjl hok hJp htd
    have hknl := lets_len hkl
    refine at_ifS (b0 := !okJ kn ts) [some (.scr ns), some (.ref q), some d, some (.str (strOf S.1)), some (.lst ([t0, t1, t2].map rowsD)), some (.lst ([t0, t1, t2].map treeO)), some (.int (n : Int)), some (.str (strOf kn)), some (.ref r), some (tryD (outJ kn ts)), some (.lst (J.map Row.d)), none, none, none, none, none, none, none]
      (t_not (t_val (EE.eq (e_blt (kd_all (bs := ts.map fun t => sharedB kn t)) (a_cons (EE.eq (e_lcM [("_law_mine", 11)] ts rowsD (fun t => D.bl (sharedB kn t)) (EI.eq (ei_list (e_slice (e_name 4 rfl) o_none (o_some (e_name 6 rfl)) sd_lst)) (by rw [cut_take, ← List.map_take, hts])) (ctg_name 11 scLaw.nd (by decide) rfl) (fun _ _ => trivial) (by omega)
        (fun t ht M' hM' s2 H2 C2 cl2 fp2 => EE.eq (e_blt (kd_all (bs := kn.map fun c => decide (c ∈ (rowAt t 0).1))) (a_cons (EE.eq (e_lcM [("_law_sign", 15)] kn (fun c => D.str (sg c)) (fun c => D.bl (decide (c ∈ (rowAt t 0).1)))
          (EI.eq (ei_str (e_name 7 rfl)) (by rw [signs_tl]; simp)) (ctg_name 15 scLaw.nd (by decide) rfl) (fun _ _ => trivial) (by omega)
          (fun c hc M' hM s2 H2 C2 cl2 fp2 => EE.eq (e_cmp (e_name 15 rfl) (e_ix (e_ix (e_name 11 rfl) e_int (xd_lst (j := 0) (by rw [List.length_map]; exact ixN_nat (List.length_pos_iff.mpr (RT t ht).1.out.2.1)) (by rw [List.getElem?_map, rows_get (List.length_pos_iff.mpr (RT t ht).1.out.2.1)]; rfl))) e_int (xd_tup (j := 0) rfl rfl)) cd_inC) rfl) (blkOk_by rfl) scLaw.nd) (by simp)) a_nil) B.all) (by simp [sharedB, List.all_map, Function.comp_def])) (blkOk_by rfl) scLaw.nd) (by simp)) a_nil) B.all) (by simp [okJ, List.all_map, Function.comp_def])))) (fun h k => ?_) (fun h k => ?_) ?_
    · have h2 := htd false (by simpa using h)
      refine at_if (b0 := false) (e_same (d := .tup [.str "NotShared", .non]) (n := 1) (T.same 1) (hr.mono (by decide)) ⟨by simp, by simp [plD]⟩ (EE.eq (e_name 9 rfl) h2) (e_tup (a_cons e_str (a_cons e_non a_nil)))) (fun h => by cases h) (fun _ => at_nil ?_)
      exact at_nil (at_go k (by walk_at "le") rfl)
    · have hk : okJ kn ts = true := by simpa using h
      have h2 := htd true hk
      have hJo := hok hk
      refine at_if (b0 := false) (t_ew (t_or (p0 := false) (q0 := false) (ET.eq (t_cmp (e_ix (EE.eq (e_name 9 rfl) h2) e_int (xd_tup (j := 0) rfl rfl)) e_str cd_neS) (by decide +kernel)) fun _ => t_or1 (e_same (d := rowsD J) (n := 2) (T.same 2) (hr.mono (by decide)) (plD_rows J (by omega) 0) (EE.eq (e_meth0 T.nodes (hr.mono (by decide)) (e_ix (EE.eq (e_name 9 rfl) h2) e_int (xd_tup (j := 1) rfl rfl)) (by decide +kernel) J ⟨hJo, List.length_pos_iff.mp hJp, by omega⟩ rfl) rfl) (e_name 10 rfl)))) (fun h => by cases h) (fun _ => at_nil ?_)
      exact at_nil (at_go k (by walk_at "le") rfl)
    refine at_if (b0 := false) (ET.eq (t_cmp (EE.eq (e_lcM [("_law_one_here", 17)] [t0, t1, t2] treeO rowsD (ei_list (e_name 5 rfl)) (ctg_name 17 scLaw.nd (by decide) rfl) (fun _ _ => trivial) (by show 3 ≤ 100000; decide)
        (fun t ht M' hM' s2 H2 C2 cl2 fp2 => EE.eq (e_meth0 T.nodes (hr.mono (by decide)) (e_name 17 rfl) (by decide +kernel) t ⟨(RUs t ht).1.out.1, (RUs t ht).1.out.2.1, (RUs t ht).1.out.2.2.1⟩ rfl) rfl) (blkOk_by rfl) scLaw.nd) rfl) (e_name 4 rfl) (cd_neRowss hu (fun t ht => rowsCp_ok (RUs t ht).1.out.1) (fun t ht => rowsCp_ok (RUs t ht).1.out.1))) (by simp)) (fun h => by cases h) (fun _ => at_nil ?_)
    -- no letters
    have o8 := draw_ok o7 5
    have hom := dpA_mem (l := oddL) (b := B5) (by show 0 < 5; decide)
    obtain ⟨od, hod⟩ : ∃ od, itemD (.lst oddL) (draw B5 oddL.length).1.toNat = od := ⟨_, rfl⟩
    rw [hod] at hom
    obtain ⟨w1, w2, w3⟩ := oddL_is od hom
    refine at_set 13 (d := od) (cs1 := _ :: (q, (draw B5 5).2.c) :: [(PT, .tab qn)]) (EE.eq (e_oneL (t := .lst oddL) T.one (hr.mono (by decide)) (e_name 1 rfl) (e_lst (a_cons e_str (a_cons e_str (a_cons e_str (a_cons e_non (a_cons e_int a_nil)))))) (.there .here) o7 (by show 0 < 5 ∧ 5 ≤ 100000; decide)) hod) ?_ scLaw.nd
    generalize (draw B5 5).2 = B6 at o8
    have JX := T.joinX od [t0] w1 w2 (by show 1 ≤ 5; decide)
    refine at_if (b0 := false) (e_same (d := .tup [.str "InvalidLetters", od]) (n := 1) (T.same 1) (hr.mono (by decide)) ⟨by simp, by simp [plD, w3]⟩
      (e_tryX ["_law_made", "_law_odd"] ["_law_made", "_law_odd"] [5, 13] [some (.lst ([t0, t1, t2].map treeO)), some od] T.try' (hr.mono (by decide)) TL (q := qn) (List.mem_cons_of_mem _ (List.mem_cons_of_mem _ (List.mem_cons_self ..))) (fun A outer s H E f c' hr2 => x_sm JX (hr2.mono (by decide)) (a_cons (e_name 1 rfl) (a_cons (e_ix (e_name 0 rfl) e_int (xd_lst (j := 0) rfl rfl)) a_nil)) sw0) rfl (T.caughtL od) (tryD_badLt od))
      (e_tup (a_cons e_str (a_cons (e_name 13 rfl) a_nil)))) (fun h => by cases h) (fun _ => at_nil ?_)
    exact at_nil (at_unmark (at_go (at_inv (e := [some (.scr ns), some (.ref q), none, none, none, none, none, none, none, none, none, none, none, none, none, none, none, none]) B6 o8 rfl rfl) (by walk_at "le") rfl))
  · have JP : JnPre [] [[([120], none)], [([], none)]] := ⟨by decide +kernel, fun t ht => by
      simp only [List.mem_cons, List.not_mem_nil, or_false] at ht
      rcases ht with rfl | rfl
      · exact ⟨by decide +kernel, by simp, by decide⟩
      · exact ⟨by decide +kernel, by simp, by decide⟩, by decide⟩
    have JT := T.join [] _ JP
    rw [show outJ [] [[([120], none)], [([], none)]] = .ok (treeO (joinF [] [[([120], none)], [([], none)]])) from rfl] at JT
    exact at_done (M0 := M) (c2 := [(PT, .tab qn)]) (d := .bl true) (EE.eq (e_cmp (EE.eq (e_meth0 T.text (hr.mono (by decide)) (e_sm JT (hr.mono (by decide)) (a_cons (EE.eq e_str (congrArg D.str nil_str)) (a_cons (e_sm (T.leaf [120] (by decide +kernel)) (hr.mono (by decide)) (a_cons (EE.eq e_str (congrArg D.str (show ("x" : Str) = strOf [120] by decide +kernel))) a_nil) sw0) (a_cons (e_sm (T.leaf [] (by decide +kernel)) (hr.mono (by decide)) (a_cons (EE.eq e_str (congrArg D.str nil_str)) a_nil) sw0) a_nil))) sw0) (by decide +kernel) (joinF [] [[([120], none)], [([], none)]]) ⟨by decide +kernel, by decide +kernel, by decide +kernel, by decide +kernel⟩ rfl) rfl) e_str cd_eqS) (congrArg D.bl (by decide +kernel))) (.head _) (fun a h => .inl h) (by simp) (fun p hp => hM p hp) rfl kq
end
end Od

set_option Elab.async false
set_option linter.all false
set_option maxRecDepth 100000
set_option maxHeartbeats 4000000
namespace Od
open PySem L2 TL PySem.Spec LamX PyProof.Rows
theorem cx_no {P : Program} {w : World} {outer : List Env} {H : Hp} {s s' : Shared} {e : Value} (z : L2.CX P w outer H s (fun _ _ _ => False) e s') : False := by
  obtain ⟨_, _, _, _, _, _, _, _, _, _, _, _, z⟩ := z
  exact z
theorem all_mk {l : PySem.W.OpenLaw} {w : World} {K : PySem.W.Frag} {h : Heap} {mg : Str → Option Value} {fa : Addr} (X : K.In h) (G : h.Ns mainGlobals mg) (hfa : mg "law" = some (.ref fa)) (own : OwnTab K fa h)
    {cL PT : Addr} {eL : Value} {ddL : Option Addr} {vsL : Array Value} {slL : Array (Option Value)}
    {f_isLet : Addr} {od_isLet an_isLet : Option Addr} {sl_isLet : Array (Option Value)} {oc_isLet kV_isLet dc_isLet pm_isLet ct_isLet : Value} {cd_isLet : Value}
    {f_isLets : Addr} {od_isLets an_isLets : Option Addr} {sl_isLets : Array (Option Value)} {oc_isLets kV_isLets dc_isLets pm_isLets ct_isLets : Value} {cd_isLets : Value}
    {f_isNum : Addr} {od_isNum an_isNum : Option Addr} {sl_isNum : Array (Option Value)} {oc_isNum kV_isNum dc_isNum pm_isNum ct_isNum : Value} {cd_isNum : Value}
    {f_chkNodes : Addr} {od_chkNodes an_chkNodes : Option Addr} {sl_chkNodes : Array (Option Value)} {oc_chkNodes kV_chkNodes dc_chkNodes pm_chkNodes ct_chkNodes : Value} {cd_chkNodes : Value}
    {f_nodeText : Addr} {od_nodeText an_nodeText : Option Addr} {sl_nodeText : Array (Option Value)} {oc_nodeText kV_nodeText dc_nodeText pm_nodeText ct_nodeText : Value} {cd_nodeText : Value}
    {f_parsed : Addr} {od_parsed an_parsed : Option Addr} {sl_parsed : Array (Option Value)} {oc_parsed kV_parsed dc_parsed pm_parsed ct_parsed : Value} {cd_parsed : Value}
    {f_madeTree : Addr} {od_madeTree an_madeTree : Option Addr} {sl_madeTree : Array (Option Value)} {oc_madeTree kV_madeTree dc_madeTree pm_madeTree ct_madeTree : Value} {cd_madeTree : Value}
    {f_cells : Addr} {od_cells an_cells : Option Addr} {sl_cells : Array (Option Value)} {oc_cells kV_cells dc_cells pm_cells ct_cells : Value} {cd_cells : Value}
    {f_draw : Addr} {od_draw an_draw : Option Addr} {sl_draw : Array (Option Value)} {oc_draw kV_draw dc_draw pm_draw ct_draw : Value} {cd_draw : Value}
    {f_one : Addr} {od_one an_one : Option Addr} {sl_one : Array (Option Value)} {oc_one kV_one dc_one pm_one ct_one : Value} {cd_one : Value}
    {f_same : Addr} {od_same an_same : Option Addr} {sl_same : Array (Option Value)} {oc_same kV_same dc_same pm_same ct_same : Value} {cd_same : Value}
    {f_signs : Addr} {od_signs an_signs : Option Addr} {sl_signs : Array (Option Value)} {oc_signs kV_signs dc_signs pm_signs ct_signs : Value} {cd_signs : Value}
    {f_rows : Addr} {od_rows an_rows : Option Addr} {sl_rows : Array (Option Value)} {oc_rows kV_rows dc_rows pm_rows ct_rows : Value} {cd_rows : Value}
    {f_rowText : Addr} {od_rowText an_rowText : Option Addr} {sl_rowText : Array (Option Value)} {oc_rowText kV_rowText dc_rowText pm_rowText ct_rowText : Value} {cd_rowText : Value}
    {f_ltree : Addr} {od_ltree an_ltree : Option Addr} {sl_ltree : Array (Option Value)} {oc_ltree kV_ltree dc_ltree pm_ltree ct_ltree : Value} {cd_ltree : Value}
    {f_field : Addr} {od_field an_field : Option Addr} {sl_field : Array (Option Value)} {oc_field kV_field dc_field pm_field ct_field : Value} {cd_field : Value}
    {f_try : Addr} {od_try an_try : Option Addr} {sl_try : Array (Option Value)} {oc_try kV_try dc_try pm_try ct_try : Value} {cd_try : Value}
    {f_law : Addr} {od_law an_law : Option Addr} {sl_law : Array (Option Value)} {oc_law kV_law dc_law pm_law ct_law : Value}
    {CT : Addr}
    {C1 : Addr}
    {C2 : Addr}
    {C3 : Addr}
    {XT_ : Addr}
    {XS_ : Addr}
    {XL_ : Addr}
    {f_tinit : Addr} {od_tinit an_tinit : Option Addr} {sl_tinit : Array (Option Value)} {oc_tinit kV_tinit dc_tinit pm_tinit ct_tinit : Value} {cd_tinit : Value}
    {f_tnodes : Addr} {od_tnodes an_tnodes : Option Addr} {sl_tnodes : Array (Option Value)} {oc_tnodes kV_tnodes dc_tnodes pm_tnodes ct_tnodes : Value} {cd_tnodes : Value}
    {f_tchk : Addr} {od_tchk an_tchk : Option Addr} {sl_tchk : Array (Option Value)} {oc_tchk kV_tchk dc_tchk pm_tchk ct_tchk : Value} {cd_tchk : Value}
    {f_tat : Addr} {od_tat an_tat : Option Addr} {sl_tat : Array (Option Value)} {oc_tat kV_tat dc_tat pm_tat ct_tat : Value} {cd_tat : Value}
    {f_tkids : Addr} {od_tkids an_tkids : Option Addr} {sl_tkids : Array (Option Value)} {oc_tkids kV_tkids dc_tkids pm_tkids ct_tkids : Value} {cd_tkids : Value}
    {f_ttext : Addr} {od_ttext an_ttext : Option Addr} {sl_ttext : Array (Option Value)} {oc_ttext kV_ttext dc_ttext pm_ttext ct_ttext : Value} {cd_ttext : Value}
    {f_tparse : Addr} {od_tparse an_tparse : Option Addr} {sl_tparse : Array (Option Value)} {oc_tparse kV_tparse dc_tparse pm_tparse ct_tparse : Value} {cd_tparse : Value}
    {p_tparse : Addr} {r_tparse : List Value}
    {f_tleaf : Addr} {od_tleaf an_tleaf : Option Addr} {sl_tleaf : Array (Option Value)} {oc_tleaf kV_tleaf dc_tleaf pm_tleaf ct_tleaf : Value} {cd_tleaf : Value}
    {p_tleaf : Addr} {r_tleaf : List Value}
    {f_tjoined : Addr} {od_tjoined an_tjoined : Option Addr} {sl_tjoined : Array (Option Value)} {oc_tjoined kV_tjoined dc_tjoined pm_tjoined ct_tjoined : Value} {cd_tjoined : Value}
    {p_tjoined : Addr} {r_tjoined : List Value}
    {nmxt qxt : Str} {Nxt : Addr} {bsxt bmxt : List Value} {snxt : List Str} {subxt : List Value} {abxt : Bool} {colxt : Option Bool} {ddxt : Option Addr} {kaxt kbxt kcxt kdxt kext : Option Value} {fixt : Addr} {ocxt dcxt pmxt ctxt : Value} {odxt anxt : Option Addr} {cdaxt ccxt : Addr} {slxt : Array (Option Value)} {filext : Str} {tfxt : Tok} {vsxt : Array Value} {cclxt : Value} {cddxt : Option Addr} {ccsxt : Array (Option Value)} {clxt : Value} {cldxt : Option Addr} {cslxt : Array (Option Value)}
    {nmxs qxs : Str} {Nxs : Addr} {bsxs bmxs : List Value} {snxs : List Str} {subxs : List Value} {abxs : Bool} {colxs : Option Bool} {ddxs : Option Addr} {kaxs kbxs kcxs kdxs kexs : Option Value} {fixs : Addr} {ocxs dcxs pmxs ctxs : Value} {odxs anxs : Option Addr} {cdaxs ccxs : Addr} {slxs : Array (Option Value)} {filexs : Str} {tfxs : Tok} {vsxs : Array Value} {cclxs : Value} {cddxs : Option Addr} {ccsxs : Array (Option Value)} {clxs : Value} {cldxs : Option Addr} {cslxs : Array (Option Value)}
    {nmxl qxl : Str} {Nxl : Addr} {bsxl bmxl : List Value} {snxl : List Str} {subxl : List Value} {abxl : Bool} {colxl : Option Bool} {ddxl : Option Addr} {kaxl kbxl kcxl kdxl kexl : Option Value} {fixl : Addr} {ocxl dcxl pmxl ctxl : Value} {odxl anxl : Option Addr} {cdaxl ccxl : Addr} {slxl : Array (Option Value)} {filexl : Str} {tfxl : Tok} {vsxl : Array Value} {cclxl : Value} {cddxl : Option Addr} {ccsxl : Array (Option Value)} {clxl : Value} {cldxl : Option Addr} {cslxl : Array (Option Value)}
    {tal tmo : Tok}
    (a_isLet : PySem.W.nsIn K mainGlobals "is_letter" = some (some (.ref f_isLet)))
    (l_isLet : K.lookup f_isLet = some ⟨oc_isLet, od_isLet, .func (PySem.W.fnOf "is_letter" "is_letter" (defArgs sIsLet) (defBody sIsLet) (defScope sIsLet) .none kV_isLet dc_isLet pm_isLet an_isLet cd_isLet ct_isLet), sl_isLet⟩)
    (c_isLet : PySem.W.codeIn K (cd_isLet) "is_letter" = true)
    (k_isLet : PySem.W.keepIn K (.ref f_isLet) = true)
    (a_isLets : PySem.W.nsIn K mainGlobals "is_letters" = some (some (.ref f_isLets)))
    (l_isLets : K.lookup f_isLets = some ⟨oc_isLets, od_isLets, .func (PySem.W.fnOf "is_letters" "is_letters" (defArgs sIsLets) (defBody sIsLets) (defScope sIsLets) .none kV_isLets dc_isLets pm_isLets an_isLets cd_isLets ct_isLets), sl_isLets⟩)
    (c_isLets : PySem.W.codeIn K (cd_isLets) "is_letters" = true)
    (k_isLets : PySem.W.keepIn K (.ref f_isLets) = true)
    (a_isNum : PySem.W.nsIn K mainGlobals "is_number" = some (some (.ref f_isNum)))
    (l_isNum : K.lookup f_isNum = some ⟨oc_isNum, od_isNum, .func (PySem.W.fnOf "is_number" "is_number" (defArgs sIsNum) (defBody sIsNum) (defScope sIsNum) .none kV_isNum dc_isNum pm_isNum an_isNum cd_isNum ct_isNum), sl_isNum⟩)
    (c_isNum : PySem.W.codeIn K (cd_isNum) "is_number" = true)
    (k_isNum : PySem.W.keepIn K (.ref f_isNum) = true)
    (a_chkNodes : PySem.W.nsIn K mainGlobals "check_nodes" = some (some (.ref f_chkNodes)))
    (l_chkNodes : K.lookup f_chkNodes = some ⟨oc_chkNodes, od_chkNodes, .func (PySem.W.fnOf "check_nodes" "check_nodes" (defArgs sChkNodes) (defBody sChkNodes) (defScope sChkNodes) .none kV_chkNodes dc_chkNodes pm_chkNodes an_chkNodes cd_chkNodes ct_chkNodes), sl_chkNodes⟩)
    (c_chkNodes : PySem.W.codeIn K (cd_chkNodes) "check_nodes" = true)
    (k_chkNodes : PySem.W.keepIn K (.ref f_chkNodes) = true)
    (a_nodeText : PySem.W.nsIn K mainGlobals "node_text" = some (some (.ref f_nodeText)))
    (l_nodeText : K.lookup f_nodeText = some ⟨oc_nodeText, od_nodeText, .func (PySem.W.fnOf "node_text" "node_text" (defArgs sNodeText) (defBody sNodeText) (defScope sNodeText) .none kV_nodeText dc_nodeText pm_nodeText an_nodeText cd_nodeText ct_nodeText), sl_nodeText⟩)
    (c_nodeText : PySem.W.codeIn K (cd_nodeText) "node_text" = true)
    (k_nodeText : PySem.W.keepIn K (.ref f_nodeText) = true)
    (a_parsed : PySem.W.nsIn K mainGlobals "parsed" = some (some (.ref f_parsed)))
    (l_parsed : K.lookup f_parsed = some ⟨oc_parsed, od_parsed, .func (PySem.W.fnOf "parsed" "parsed" (defArgs sParsed) (defBody sParsed) (defScope sParsed) .none kV_parsed dc_parsed pm_parsed an_parsed cd_parsed ct_parsed), sl_parsed⟩)
    (c_parsed : PySem.W.codeIn K (cd_parsed) "parsed" = true)
    (k_parsed : PySem.W.keepIn K (.ref f_parsed) = true)
    (a_madeTree : PySem.W.nsIn K mainGlobals "made_tree" = some (some (.ref f_madeTree)))
    (l_madeTree : K.lookup f_madeTree = some ⟨oc_madeTree, od_madeTree, .func (PySem.W.fnOf "made_tree" "made_tree" (defArgs sMadeTree) (defBody sMadeTree) (defScope sMadeTree) .none kV_madeTree dc_madeTree pm_madeTree an_madeTree cd_madeTree ct_madeTree), sl_madeTree⟩)
    (c_madeTree : PySem.W.codeIn K (cd_madeTree) "made_tree" = true)
    (k_madeTree : PySem.W.keepIn K (.ref f_madeTree) = true)
    (a_cells : PySem.W.nsIn K mainGlobals "_law_cells" = some (some (.ref f_cells)))
    (l_cells : K.lookup f_cells = some ⟨oc_cells, od_cells, .func (PySem.W.fnOf "_law_cells" "_law_cells" (defArgs sCells) (defBody sCells) (defScope sCells) .none kV_cells dc_cells pm_cells an_cells cd_cells ct_cells), sl_cells⟩)
    (c_cells : PySem.W.codeIn K (cd_cells) "_law_cells" = true)
    (k_cells : PySem.W.keepIn K (.ref f_cells) = true)
    (a_draw : PySem.W.nsIn K mainGlobals "_law_draw" = some (some (.ref f_draw)))
    (l_draw : K.lookup f_draw = some ⟨oc_draw, od_draw, .func (PySem.W.fnOf "_law_draw" "_law_draw" (defArgs sDraw) (defBody sDraw) (defScope sDraw) .none kV_draw dc_draw pm_draw an_draw cd_draw ct_draw), sl_draw⟩)
    (c_draw : PySem.W.codeIn K (cd_draw) "_law_draw" = true)
    (k_draw : PySem.W.keepIn K (.ref f_draw) = true)
    (a_one : PySem.W.nsIn K mainGlobals "_law_one" = some (some (.ref f_one)))
    (l_one : K.lookup f_one = some ⟨oc_one, od_one, .func (PySem.W.fnOf "_law_one" "_law_one" (defArgs sOne) (defBody sOne) (defScope sOne) .none kV_one dc_one pm_one an_one cd_one ct_one), sl_one⟩)
    (c_one : PySem.W.codeIn K (cd_one) "_law_one" = true)
    (k_one : PySem.W.keepIn K (.ref f_one) = true)
    (a_same : PySem.W.nsIn K mainGlobals "_law_same" = some (some (.ref f_same)))
    (l_same : K.lookup f_same = some ⟨oc_same, od_same, .func (PySem.W.fnOf "_law_same" "_law_same" (defArgs sSame) (defBody sSame) (defScope sSame) .none kV_same dc_same pm_same an_same cd_same ct_same), sl_same⟩)
    (c_same : PySem.W.codeIn K (cd_same) "_law_same" = true)
    (k_same : PySem.W.keepIn K (.ref f_same) = true)
    (a_signs : PySem.W.nsIn K mainGlobals "_law_signs" = some (some (.ref f_signs)))
    (l_signs : K.lookup f_signs = some ⟨oc_signs, od_signs, .func (PySem.W.fnOf "_law_signs" "_law_signs" (defArgs sSigns) (defBody sSigns) (defScope sSigns) .none kV_signs dc_signs pm_signs an_signs cd_signs ct_signs), sl_signs⟩)
    (c_signs : PySem.W.codeIn K (cd_signs) "_law_signs" = true)
    (k_signs : PySem.W.keepIn K (.ref f_signs) = true)
    (a_rows : PySem.W.nsIn K mainGlobals "_law_rows" = some (some (.ref f_rows)))
    (l_rows : K.lookup f_rows = some ⟨oc_rows, od_rows, .func (PySem.W.fnOf "_law_rows" "_law_rows" (defArgs sRows) (defBody sRows) (defScope sRows) .none kV_rows dc_rows pm_rows an_rows cd_rows ct_rows), sl_rows⟩)
    (c_rows : PySem.W.codeIn K (cd_rows) "_law_rows" = true)
    (k_rows : PySem.W.keepIn K (.ref f_rows) = true)
    (a_rowText : PySem.W.nsIn K mainGlobals "_law_row_text" = some (some (.ref f_rowText)))
    (l_rowText : K.lookup f_rowText = some ⟨oc_rowText, od_rowText, .func (PySem.W.fnOf "_law_row_text" "_law_row_text" (defArgs sRowText) (defBody sRowText) (defScope sRowText) .none kV_rowText dc_rowText pm_rowText an_rowText cd_rowText ct_rowText), sl_rowText⟩)
    (c_rowText : PySem.W.codeIn K (cd_rowText) "_law_row_text" = true)
    (k_rowText : PySem.W.keepIn K (.ref f_rowText) = true)
    (a_ltree : PySem.W.nsIn K mainGlobals "_law_tree" = some (some (.ref f_ltree)))
    (l_ltree : K.lookup f_ltree = some ⟨oc_ltree, od_ltree, .func (PySem.W.fnOf "_law_tree" "_law_tree" (defArgs sLTree) (defBody sLTree) (defScope sLTree) .none kV_ltree dc_ltree pm_ltree an_ltree cd_ltree ct_ltree), sl_ltree⟩)
    (c_ltree : PySem.W.codeIn K (cd_ltree) "_law_tree" = true)
    (k_ltree : PySem.W.keepIn K (.ref f_ltree) = true)
    (a_field : PySem.W.nsIn K mainGlobals "_law_field" = some (some (.ref f_field)))
    (l_field : K.lookup f_field = some ⟨oc_field, od_field, .func (PySem.W.fnOf "_law_field" "_law_field" (defArgs sField) (defBody sField) (defScope sField) .none kV_field dc_field pm_field an_field cd_field ct_field), sl_field⟩)
    (c_field : PySem.W.codeIn K (cd_field) "_law_field" = true)
    (k_field : PySem.W.keepIn K (.ref f_field) = true)
    (a_try : PySem.W.nsIn K mainGlobals "_law_try" = some (some (.ref f_try)))
    (l_try : K.lookup f_try = some ⟨oc_try, od_try, .func (PySem.W.fnOf "_law_try" "_law_try" (defArgs sTry) (defBody sTry) (defScope sTry) .none kV_try dc_try pm_try an_try cd_try ct_try), sl_try⟩)
    (c_try : PySem.W.codeIn K (cd_try) "_law_try" = true)
    (k_try : PySem.W.keepIn K (.ref f_try) = true)
    (a_law : PySem.W.nsIn K mainGlobals "law" = some (some (.ref f_law)))
    (l_law : K.lookup f_law = some ⟨oc_law, od_law, .func (PySem.W.fnOf "law" "law" (defArgs sLaw) (defBody sLaw) (defScope sLaw) .none kV_law dc_law pm_law an_law (.ref cL) ct_law), sl_law⟩)
    (c_law : PySem.W.codeIn K ((.ref cL)) "law" = true)
    (k_law : PySem.W.keepIn K (.ref f_law) = true)
    (lkC : K.lookup cL = some ⟨eL, ddL, .fields vsL, slL⟩)
    (lkP : vsL[11]? = some (.ref PT))
    (lkN : K.lookup PT = none)
    (lkH : PySem.W.codeHdIn K cL PT = true)
    (aCT : PySem.W.nsIn K mainGlobals "Tree" = some (some (.ref CT)))
    (aC1 : PySem.W.nsIn K mainGlobals "RootError" = some (some (.ref C1)))
    (aC2 : PySem.W.nsIn K mainGlobals "Missing" = some (some (.ref C2)))
    (aC3 : PySem.W.nsIn K mainGlobals "NothingLeft" = some (some (.ref C3)))
    (aXT_ : PySem.W.nsIn K mainGlobals "InvalidText" = some (some (.ref XT_)))
    (aXS_ : PySem.W.nsIn K mainGlobals "NotShared" = some (some (.ref XS_)))
    (aXL_ : PySem.W.nsIn K mainGlobals "InvalidLetters" = some (some (.ref XL_)))
    (a_tinit : PySem.W.findIn K (.ref CT) "__init__" = some (some (.ref f_tinit)))
    (i_tinit : PySem.W.isFn K (.ref f_tinit) = true)
    (l_tinit : K.lookup f_tinit = some ⟨oc_tinit, od_tinit, .func (PySem.W.fnOf "__init__" "Tree.__init__" (defArgs sTInit) (defBody sTInit) (defScope sTInit) .none kV_tinit dc_tinit pm_tinit an_tinit cd_tinit ct_tinit), sl_tinit⟩)
    (c_tinit : PySem.W.codeIn K (cd_tinit) "Tree.__init__" = true)
    (k_tinit : PySem.W.keepIn K (.ref f_tinit) = true)
    (a_tnodes : PySem.W.findIn K (.ref CT) "nodes" = some (some (.ref f_tnodes)))
    (i_tnodes : PySem.W.isFn K (.ref f_tnodes) = true)
    (l_tnodes : K.lookup f_tnodes = some ⟨oc_tnodes, od_tnodes, .func (PySem.W.fnOf "nodes" "Tree.nodes" (defArgs sTNodes) (defBody sTNodes) (defScope sTNodes) .none kV_tnodes dc_tnodes pm_tnodes an_tnodes cd_tnodes ct_tnodes), sl_tnodes⟩)
    (c_tnodes : PySem.W.codeIn K (cd_tnodes) "Tree.nodes" = true)
    (k_tnodes : PySem.W.keepIn K (.ref f_tnodes) = true)
    (a_tchk : PySem.W.findIn K (.ref CT) "check_node" = some (some (.ref f_tchk)))
    (i_tchk : PySem.W.isFn K (.ref f_tchk) = true)
    (l_tchk : K.lookup f_tchk = some ⟨oc_tchk, od_tchk, .func (PySem.W.fnOf "check_node" "Tree.check_node" (defArgs sTChk) (defBody sTChk) (defScope sTChk) .none kV_tchk dc_tchk pm_tchk an_tchk cd_tchk ct_tchk), sl_tchk⟩)
    (c_tchk : PySem.W.codeIn K (cd_tchk) "Tree.check_node" = true)
    (k_tchk : PySem.W.keepIn K (.ref f_tchk) = true)
    (a_tat : PySem.W.findIn K (.ref CT) "letters_at" = some (some (.ref f_tat)))
    (i_tat : PySem.W.isFn K (.ref f_tat) = true)
    (l_tat : K.lookup f_tat = some ⟨oc_tat, od_tat, .func (PySem.W.fnOf "letters_at" "Tree.letters_at" (defArgs sTAt) (defBody sTAt) (defScope sTAt) .none kV_tat dc_tat pm_tat an_tat cd_tat ct_tat), sl_tat⟩)
    (c_tat : PySem.W.codeIn K (cd_tat) "Tree.letters_at" = true)
    (k_tat : PySem.W.keepIn K (.ref f_tat) = true)
    (a_tkids : PySem.W.findIn K (.ref CT) "children" = some (some (.ref f_tkids)))
    (i_tkids : PySem.W.isFn K (.ref f_tkids) = true)
    (l_tkids : K.lookup f_tkids = some ⟨oc_tkids, od_tkids, .func (PySem.W.fnOf "children" "Tree.children" (defArgs sTKids) (defBody sTKids) (defScope sTKids) .none kV_tkids dc_tkids pm_tkids an_tkids cd_tkids ct_tkids), sl_tkids⟩)
    (c_tkids : PySem.W.codeIn K (cd_tkids) "Tree.children" = true)
    (k_tkids : PySem.W.keepIn K (.ref f_tkids) = true)
    (a_ttext : PySem.W.findIn K (.ref CT) "text" = some (some (.ref f_ttext)))
    (i_ttext : PySem.W.isFn K (.ref f_ttext) = true)
    (l_ttext : K.lookup f_ttext = some ⟨oc_ttext, od_ttext, .func (PySem.W.fnOf "text" "Tree.text" (defArgs sTText) (defBody sTText) (defScope sTText) .none kV_ttext dc_ttext pm_ttext an_ttext cd_ttext ct_ttext), sl_ttext⟩)
    (c_ttext : PySem.W.codeIn K (cd_ttext) "Tree.text" = true)
    (k_ttext : PySem.W.keepIn K (.ref f_ttext) = true)
    (a_tparse : PySem.W.findCls K (.ref CT) (.type "type") "parse" = some (.get (.builtin "staticmethod.__get__") (.ref p_tparse) .none (.ref CT)))
    (q_tparse : PySem.W.recIn K p_tparse "staticmethod" = some (.ref f_tparse :: r_tparse))
    (l_tparse : K.lookup f_tparse = some ⟨oc_tparse, od_tparse, .func (PySem.W.fnOf "parse" "Tree.parse" (defArgs sTParse) (defBody sTParse) (defScope sTParse) .none kV_tparse dc_tparse pm_tparse an_tparse cd_tparse ct_tparse), sl_tparse⟩)
    (c_tparse : PySem.W.codeIn K (cd_tparse) "Tree.parse" = true)
    (k_tparse : PySem.W.keepIn K (.ref f_tparse) = true)
    (a_tleaf : PySem.W.findCls K (.ref CT) (.type "type") "leaf" = some (.get (.builtin "staticmethod.__get__") (.ref p_tleaf) .none (.ref CT)))
    (q_tleaf : PySem.W.recIn K p_tleaf "staticmethod" = some (.ref f_tleaf :: r_tleaf))
    (l_tleaf : K.lookup f_tleaf = some ⟨oc_tleaf, od_tleaf, .func (PySem.W.fnOf "leaf" "Tree.leaf" (defArgs sTLeaf) (defBody sTLeaf) (defScope sTLeaf) .none kV_tleaf dc_tleaf pm_tleaf an_tleaf cd_tleaf ct_tleaf), sl_tleaf⟩)
    (c_tleaf : PySem.W.codeIn K (cd_tleaf) "Tree.leaf" = true)
    (k_tleaf : PySem.W.keepIn K (.ref f_tleaf) = true)
    (a_tjoined : PySem.W.findCls K (.ref CT) (.type "type") "joined" = some (.get (.builtin "staticmethod.__get__") (.ref p_tjoined) .none (.ref CT)))
    (q_tjoined : PySem.W.recIn K p_tjoined "staticmethod" = some (.ref f_tjoined :: r_tjoined))
    (l_tjoined : K.lookup f_tjoined = some ⟨oc_tjoined, od_tjoined, .func (PySem.W.fnOf "joined" "Tree.joined" (defArgs sTJoined) (defBody sTJoined) (defScope sTJoined) .none kV_tjoined dc_tjoined pm_tjoined an_tjoined cd_tjoined ct_tjoined), sl_tjoined⟩)
    (c_tjoined : PySem.W.codeIn K (cd_tjoined) "Tree.joined" = true)
    (k_tjoined : PySem.W.keepIn K (.ref f_tjoined) = true)
    (CTpg : PySem.W.plainGet K CT Str.empty = true)
    (CThd : PySem.W.hasDictIn K CT = true)
    (CTpo : PySem.W.plainOver K CT = true)
    (CTsa : PySem.W.findIn K (.ref CT) "__setattr__" = some (some (.builtin "object.__setattr__")))
    (CTmk : PySem.W.makesIn K CT = true)
    (CTkc : PySem.W.keepIn K (.ref CT) = true)
    (CTca : PySem.W.findIn K (.ref CT) "__class__" = some (some (.builtin "object.__class__")))
    (CTcm : PySem.W.mroIn K CT (.type "object") = some true)
    (CTrd : PySem.W.readsIn K CT (.type "type") = true)
    (CTga : PySem.W.specialIn K (.ref CT) "__getattribute__" = some (some (.builtin "type.__getattribute__")))
    (cn : PySem.W.specialIn K (.builtin "object.__class__") "__get__" = some (some (.builtin "getset_descriptor.__get__")))
    (ct : PySem.W.takesIn K (.builtin "object.__class__") = some true)
    (nCT_own_nodes : PySem.W.findIn K (.ref CT) "own_nodes" = some none)
    (E0xt : K.lookup XT_ = some (excClassObj nmxt qxt XT_ Nxt bsxt bmxt true snxt subxt abxt colxt ddxt kaxt kbxt kcxt kdxt kext "ValueError.__new__"))
    (E1xt : PySem.HandSPX.refsVE bmxt = true)
    (E2xt : PySem.W.findIn K (.ref XT_) "__setattr__" = some (some (.builtin "object.__setattr__")))
    (E3xt : PySem.W.findIn K (.ref XT_) "code" = some none)
    (E4xt : PySem.W.findIn K (.ref XT_) "__init__" = some (some (.ref fixt)))
    (E5xt : PySem.W.typeIn K (.ref fixt) = some (.type "function"))
    (E6xt : PySem.W.keepIn K (.ref XT_) = true)
    (E7xt : PySem.W.subIn K (.ref XT_) (.type "BaseException") = some true)
    (E8xt : PySem.W.subIn K (.ref XT_) (.type "ValueError") = some true)
    (E9xt : PySem.W.typeIn K (.ref XT_) = some (.type "type"))
    (Eaxt : PySem.W.ks_superIn K XT_ XT_ "__init__" = some (some (.builtin "ValueError.__init__")))
    (Ebxt : PySem.W.mroIn K XT_ (.ref XT_) = some true)
    (Ecxt : K.lookup fixt = some ⟨ocxt, odxt, .func (PySem.W.ksFn "__init__" "InvalidText.__init__" (defArgs sXI_InvalidText) (defBody sXI_InvalidText) (defScope sXI_InvalidText) .none .none dcxt pmxt anxt (.ref cdaxt) ctxt ccxt), slxt⟩)
    (Edxt : K.lookup cdaxt = some ⟨cclxt, cddxt, .fields vsxt, ccsxt⟩)
    (Eext : vsxt[2]? = some (.str filext tfxt))
    (Efxt : ((l.prog.main.file : Str) == filext) = true)
    (Egxt : K.lookup ccxt = some ⟨clxt, cldxt, .cell (some (.ref XT_)), cslxt⟩)
    (Ehxt : PySem.W.codeIn K (.ref cdaxt) "InvalidText.__init__" = true)
    (Eixt : PySem.W.findIn K (.ref XT_) "__getattribute__" = some (some (.builtin "BaseException.__getattribute__")))
    (Ejxt : PySem.W.findIn K (.ref XT_) "__getattr__" = some none)
    (Ekxt : PySem.W.hasDictIn K XT_ = true)
    (Elxt : PySem.W.exmAny K (.ref XT_) [.ref C1, .ref C2, .ref C3] = some true)
    (E0xs : K.lookup XS_ = some (excClassObj nmxs qxs XS_ Nxs bsxs bmxs true snxs subxs abxs colxs ddxs kaxs kbxs kcxs kdxs kexs "ValueError.__new__"))
    (E1xs : PySem.HandSPX.refsVE bmxs = true)
    (E2xs : PySem.W.findIn K (.ref XS_) "__setattr__" = some (some (.builtin "object.__setattr__")))
    (E3xs : PySem.W.findIn K (.ref XS_) "code" = some none)
    (E4xs : PySem.W.findIn K (.ref XS_) "__init__" = some (some (.ref fixs)))
    (E5xs : PySem.W.typeIn K (.ref fixs) = some (.type "function"))
    (E6xs : PySem.W.keepIn K (.ref XS_) = true)
    (E7xs : PySem.W.subIn K (.ref XS_) (.type "BaseException") = some true)
    (E8xs : PySem.W.subIn K (.ref XS_) (.type "ValueError") = some true)
    (E9xs : PySem.W.typeIn K (.ref XS_) = some (.type "type"))
    (Eaxs : PySem.W.ks_superIn K XS_ XS_ "__init__" = some (some (.builtin "ValueError.__init__")))
    (Ebxs : PySem.W.mroIn K XS_ (.ref XS_) = some true)
    (Ecxs : K.lookup fixs = some ⟨ocxs, odxs, .func (PySem.W.ksFn "__init__" "NotShared.__init__" (defArgs sXI_NotShared) (defBody sXI_NotShared) (defScope sXI_NotShared) .none .none dcxs pmxs anxs (.ref cdaxs) ctxs ccxs), slxs⟩)
    (Edxs : K.lookup cdaxs = some ⟨cclxs, cddxs, .fields vsxs, ccsxs⟩)
    (Eexs : vsxs[2]? = some (.str filexs tfxs))
    (Efxs : ((l.prog.main.file : Str) == filexs) = true)
    (Egxs : K.lookup ccxs = some ⟨clxs, cldxs, .cell (some (.ref XS_)), cslxs⟩)
    (Ehxs : PySem.W.codeIn K (.ref cdaxs) "NotShared.__init__" = true)
    (Eixs : PySem.W.findIn K (.ref XS_) "__getattribute__" = some (some (.builtin "BaseException.__getattribute__")))
    (Ejxs : PySem.W.findIn K (.ref XS_) "__getattr__" = some none)
    (Ekxs : PySem.W.hasDictIn K XS_ = true)
    (Elxs : PySem.W.exmAny K (.ref XS_) [.ref C1, .ref C2, .ref C3] = some true)
    (E0xl : K.lookup XL_ = some (excClassObj nmxl qxl XL_ Nxl bsxl bmxl true snxl subxl abxl colxl ddxl kaxl kbxl kcxl kdxl kexl "ValueError.__new__"))
    (E1xl : PySem.HandSPX.refsVE bmxl = true)
    (E2xl : PySem.W.findIn K (.ref XL_) "__setattr__" = some (some (.builtin "object.__setattr__")))
    (E3xl : PySem.W.findIn K (.ref XL_) "code" = some none)
    (E4xl : PySem.W.findIn K (.ref XL_) "__init__" = some (some (.ref fixl)))
    (E5xl : PySem.W.typeIn K (.ref fixl) = some (.type "function"))
    (E6xl : PySem.W.keepIn K (.ref XL_) = true)
    (E7xl : PySem.W.subIn K (.ref XL_) (.type "BaseException") = some true)
    (E8xl : PySem.W.subIn K (.ref XL_) (.type "ValueError") = some true)
    (E9xl : PySem.W.typeIn K (.ref XL_) = some (.type "type"))
    (Eaxl : PySem.W.ks_superIn K XL_ XL_ "__init__" = some (some (.builtin "ValueError.__init__")))
    (Ebxl : PySem.W.mroIn K XL_ (.ref XL_) = some true)
    (Ecxl : K.lookup fixl = some ⟨ocxl, odxl, .func (PySem.W.ksFn "__init__" "InvalidLetters.__init__" (defArgs sXI_InvalidLetters) (defBody sXI_InvalidLetters) (defScope sXI_InvalidLetters) .none .none dcxl pmxl anxl (.ref cdaxl) ctxl ccxl), slxl⟩)
    (Edxl : K.lookup cdaxl = some ⟨cclxl, cddxl, .fields vsxl, ccsxl⟩)
    (Eexl : vsxl[2]? = some (.str filexl tfxl))
    (Efxl : ((l.prog.main.file : Str) == filexl) = true)
    (Egxl : K.lookup ccxl = some ⟨clxl, cldxl, .cell (some (.ref XL_)), cslxl⟩)
    (Ehxl : PySem.W.codeIn K (.ref cdaxl) "InvalidLetters.__init__" = true)
    (Eixl : PySem.W.findIn K (.ref XL_) "__getattribute__" = some (some (.builtin "BaseException.__getattribute__")))
    (Ejxl : PySem.W.findIn K (.ref XL_) "__getattr__" = some none)
    (Ekxl : PySem.W.hasDictIn K XL_ = true)
    (Elxl : PySem.W.exmAny K (.ref XL_) [.ref C1, .ref C2, .ref C3] = some true)
    (Emxl : PySem.W.findIn K (.ref XL_) "given" = some none)
    (Es1 : PySem.W.nsIn K cStatics "thirdparty.any" = some none)
    (Es2 : PySem.W.nsIn K mainGlobals "super" = some none)
    (Es3 : (l.prog.main.scope.names.lookup ("super" : Str)).isSome = false)
    (al : PySem.W.nsIn K mainGlobals "ALPHABET" = some (some (.str "abcdefghijklmnopqrstuvwxyz" tal)))
    (mo : PySem.W.nsIn K mainGlobals "MOST_OPEN" = some (some (.int 300 tmo)))
    (z_len : PySem.W.nsIn K mainGlobals "len" = some none)
    (z_int : PySem.W.nsIn K mainGlobals "int" = some none)
    (z_list : PySem.W.nsIn K mainGlobals "list" = some none)
    (z_sorted : PySem.W.nsIn K mainGlobals "sorted" = some none)
    (z_range : PySem.W.nsIn K mainGlobals "range" = some none)
    (z_isinstance : PySem.W.nsIn K mainGlobals "isinstance" = some none)
    (z_all : PySem.W.nsIn K mainGlobals "all" = some none)
    (z_any : PySem.W.nsIn K mainGlobals "any" = some none)
    (z_zip : PySem.W.nsIn K mainGlobals "zip" = some none)
    (z_sum : PySem.W.nsIn K mainGlobals "sum" = some none)
    (z_max : PySem.W.nsIn K mainGlobals "max" = some none)
    (z_str : PySem.W.nsIn K mainGlobals "str" = some none)
    (z_bool : PySem.W.nsIn K mainGlobals "bool" = some none)
    (z_tuple : PySem.W.nsIn K mainGlobals "tuple" = some none)
    (z_set : PySem.W.nsIn K mainGlobals "set" = some none)
    : LawAtS l w K (L2.CX l.prog w) 41 63 "_law_script" mg fa h := by
  have e := hfa.symm.trans (PySem.W.mg_of X G a_law)
  cases e
  have mCT := PySem.W.mg_of X G aCT
  have mC1 := PySem.W.mg_of X G aC1
  have mC2 := PySem.W.mg_of X G aC2
  have mC3 := PySem.W.mg_of X G aC3
  have mXT_ := PySem.W.mg_of X G aXT_
  have mXS_ := PySem.W.mg_of X G aXS_
  have mXL_ := PySem.W.mg_of X G aXL_
  have clCT : Cls K CT := ⟨CTpg, CThd, CTpo, CTsa⟩
  have crCT : ClX.CRead K CT (.type "type") := ⟨CTrd, CTga⟩
  have ciCT : ClsI K CT := ⟨clCT, CTca, cn, ct, CTcm⟩
  have B : Blt mg := ⟨PySem.W.mg_none_of X G z_len, PySem.W.mg_none_of X G z_int, PySem.W.mg_none_of X G z_list, PySem.W.mg_none_of X G z_sorted, PySem.W.mg_none_of X G z_range, PySem.W.mg_none_of X G z_isinstance, PySem.W.mg_none_of X G z_all, PySem.W.mg_none_of X G z_any, PySem.W.mg_none_of X G z_zip, PySem.W.mg_none_of X G z_sum, PySem.W.mg_none_of X G z_max, PySem.W.mg_none_of X G z_str, PySem.W.mg_none_of X G z_bool, PySem.W.mg_none_of X G z_tuple, PySem.W.mg_none_of X G z_set⟩
  have F_isLet := fun_mk (st := sIsLet) l_isLet c_isLet k_isLet
  have b_isLet := F_isLet.binds (ps := ["value"]) fun _ _ _ _ _ _ us hl => match us, hl with | [_], _ => rfl
  have F_isLets := fun_mk (st := sIsLets) l_isLets c_isLets k_isLets
  have b_isLets := F_isLets.binds (ps := ["value"]) fun _ _ _ _ _ _ us hl => match us, hl with | [_], _ => rfl
  have F_isNum := fun_mk (st := sIsNum) l_isNum c_isNum k_isNum
  have b_isNum := F_isNum.binds (ps := ["value"]) fun _ _ _ _ _ _ us hl => match us, hl with | [_], _ => rfl
  have F_chkNodes := fun_mk (st := sChkNodes) l_chkNodes c_chkNodes k_chkNodes
  have b_chkNodes := F_chkNodes.binds (ps := ["nodes"]) fun _ _ _ _ _ _ us hl => match us, hl with | [_], _ => rfl
  have F_nodeText := fun_mk (st := sNodeText) l_nodeText c_nodeText k_nodeText
  have b_nodeText := F_nodeText.binds (ps := ["tree", "node"]) fun _ _ _ _ _ _ us hl => match us, hl with | [_, _], _ => rfl
  have F_parsed := fun_mk (st := sParsed) l_parsed c_parsed k_parsed
  have b_parsed := F_parsed.binds (ps := ["text"]) fun _ _ _ _ _ _ us hl => match us, hl with | [_], _ => rfl
  have F_madeTree := fun_mk (st := sMadeTree) l_madeTree c_madeTree k_madeTree
  have b_madeTree := F_madeTree.binds (ps := ["rows"]) fun _ _ _ _ _ _ us hl => match us, hl with | [_], _ => rfl
  have F_cells := fun_mk (st := sCells) l_cells c_cells k_cells
  have b_cells := F_cells.binds (ps := ["_law_script"]) fun _ _ _ _ _ _ us hl => match us, hl with | [_], _ => rfl
  have F_draw := fun_mk (st := sDraw) l_draw c_draw k_draw
  have b_draw := F_draw.binds (ps := ["_law_bag", "_law_sides"]) fun _ _ _ _ _ _ us hl => match us, hl with | [_, _], _ => rfl
  have F_one := fun_mk (st := sOne) l_one c_one k_one
  have b_one := F_one.binds (ps := ["_law_bag", "_law_things"]) fun _ _ _ _ _ _ us hl => match us, hl with | [_, _], _ => rfl
  have F_same := fun_mk (st := sSame) l_same c_same k_same
  have b_same := F_same.binds (ps := ["_law_found", "_law_due"]) fun _ _ _ _ _ _ us hl => match us, hl with | [_, _], _ => rfl
  have F_signs := fun_mk (st := sSigns) l_signs c_signs k_signs
  have b_signs := F_signs.binds (ps := ["_law_bag", "_law_many"]) fun _ _ _ _ _ _ us hl => match us, hl with | [_, _], _ => rfl
  have F_rows := fun_mk (st := sRows) l_rows c_rows k_rows
  have b_rows := F_rows.binds (ps := ["_law_bag", "_law_signs_here", "_law_most"]) fun _ _ _ _ _ _ us hl => match us, hl with | [_, _, _], _ => rfl
  have F_rowText := fun_mk (st := sRowText) l_rowText c_rowText k_rowText
  have b_rowText := F_rowText.binds (ps := ["_law_mine", "_law_at"]) fun _ _ _ _ _ _ us hl => match us, hl with | [_, _], _ => rfl
  have F_ltree := fun_mk (st := sLTree) l_ltree c_ltree k_ltree
  have b_ltree := F_ltree.binds (ps := ["_law_mine"]) fun _ _ _ _ _ _ us hl => match us, hl with | [_], _ => rfl
  have F_field := fun_mk (st := sField) l_field c_field k_field
  have b_field := F_field.binds (ps := ["_law_e"]) fun _ _ _ _ _ _ us hl => match us, hl with | [_], _ => rfl
  have F_try := fun_mk (st := sTry) l_try c_try k_try
  have b_try := F_try.binds (ps := ["_law_ask"]) fun _ _ _ _ _ _ us hl => match us, hl with | [_], _ => rfl
  have F_tinit := fun_mk (st := sTInit) l_tinit c_tinit k_tinit
  have F_tnodes := fun_mk (st := sTNodes) l_tnodes c_tnodes k_tnodes
  have b_tnodes := F_tnodes.binds (ps := ["self"]) fun _ _ _ _ _ _ us hl => match us, hl with | [_], _ => rfl
  have F_tchk := fun_mk (st := sTChk) l_tchk c_tchk k_tchk
  have b_tchk := F_tchk.binds (ps := ["self", "node"]) fun _ _ _ _ _ _ us hl => match us, hl with | [_, _], _ => rfl
  have F_tat := fun_mk (st := sTAt) l_tat c_tat k_tat
  have b_tat := F_tat.binds (ps := ["self", "node"]) fun _ _ _ _ _ _ us hl => match us, hl with | [_, _], _ => rfl
  have F_tkids := fun_mk (st := sTKids) l_tkids c_tkids k_tkids
  have b_tkids := F_tkids.binds (ps := ["self", "node"]) fun _ _ _ _ _ _ us hl => match us, hl with | [_, _], _ => rfl
  have F_ttext := fun_mk (st := sTText) l_ttext c_ttext k_ttext
  have b_ttext := F_ttext.binds (ps := ["self"]) fun _ _ _ _ _ _ us hl => match us, hl with | [_], _ => rfl
  have F_tparse := fun_mk (st := sTParse) l_tparse c_tparse k_tparse
  have b_tparse := F_tparse.binds (ps := ["text"]) fun _ _ _ _ _ _ us hl => match us, hl with | [_], _ => rfl
  have F_tleaf := fun_mk (st := sTLeaf) l_tleaf c_tleaf k_tleaf
  have b_tleaf := F_tleaf.binds (ps := ["letters"]) fun _ _ _ _ _ _ us hl => match us, hl with | [_], _ => rfl
  have F_tjoined := fun_mk (st := sTJoined) l_tjoined c_tjoined k_tjoined
  have S_xt : Ox.SupC l.prog K XT_ fixt := ⟨⟨_, _, _, _, _, _, _, _, _, _, _, _, _, _, _, E0xt, E1xt⟩, E2xt, E3xt, E4xt, E5xt, E6xt, E7xt, E8xt, E9xt, Es1, Eaxt, Ebxt, Es2, Es3⟩
  have I_xt : Ox.SupI l.prog K XT_ fixt "InvalidText.__init__" (defArgs sXI_InvalidText) (defBody sXI_InvalidText) (defScope sXI_InvalidText) := ⟨⟨_, _, _, _, _, _, _, _, _, Ecxt, ⟨_, _, _, _, _, _, Edxt, Eext, Efxt⟩, ⟨_, _, _, Egxt⟩, Ehxt⟩, by decide +kernel, rfl, rfl, rfl, rfl, rfl, rfl, ⟨_, rfl, rfl⟩⟩
  have S_xs : Ox.SupC l.prog K XS_ fixs := ⟨⟨_, _, _, _, _, _, _, _, _, _, _, _, _, _, _, E0xs, E1xs⟩, E2xs, E3xs, E4xs, E5xs, E6xs, E7xs, E8xs, E9xs, Es1, Eaxs, Ebxs, Es2, Es3⟩
  have I_xs : Ox.SupI l.prog K XS_ fixs "NotShared.__init__" (defArgs sXI_NotShared) (defBody sXI_NotShared) (defScope sXI_NotShared) := ⟨⟨_, _, _, _, _, _, _, _, _, Ecxs, ⟨_, _, _, _, _, _, Edxs, Eexs, Efxs⟩, ⟨_, _, _, Egxs⟩, Ehxs⟩, by decide +kernel, rfl, rfl, rfl, rfl, rfl, rfl, ⟨_, rfl, rfl⟩⟩
  have S_xl : Ox.SupC l.prog K XL_ fixl := ⟨⟨_, _, _, _, _, _, _, _, _, _, _, _, _, _, _, E0xl, E1xl⟩, E2xl, E3xl, E4xl, E5xl, E6xl, E7xl, E8xl, E9xl, Es1, Eaxl, Ebxl, Es2, Es3⟩
  have I_xl : Ox.SupI l.prog K XL_ fixl "InvalidLetters.__init__" (defArgs sXI_InvalidLetters) (defBody sXI_InvalidLetters) (defScope sXI_InvalidLetters) := ⟨⟨_, _, _, _, _, _, _, _, _, Ecxl, ⟨_, _, _, _, _, _, Edxl, Eexl, Efxl⟩, ⟨_, _, _, Egxl⟩, Ehxl⟩, by decide +kernel, rfl, rfl, rfl, rfl, rfl, rfl, ⟨_, rfl, rfl⟩⟩
  have hPT : h.get? PT = some { cls := .none, data := .fields #[] } := own cL PT _ _ _ _ _ _ l_law rfl rfl lkC lkP
  refine ⟨PySem.W.fnOf "law" "law" (defArgs sLaw) (defBody sLaw) (defScope sLaw) .none kV_law dc_law pm_law an_law (.ref cL) ct_law, [(cL, PT)], fnSp K mg LawPre (fun ns => [.scr ns]) (fun _ => [(PT, .tab qn)]) (fun _ => .bl true) (fun _ => [(PT, .tab qn)]), (fun p hp => by
    rcases List.mem_singleton.mp hp with rfl
    exact hPT), (fun p hp => by
    rcases List.mem_singleton.mp hp with rfl
    exact lkN), (fun p hp => by
    rcases List.mem_singleton.mp hp with rfl
    exact PySem.W.codeHd_of_K X lkH), (fun s v => .of_eq rfl), (fun H a ns hl _ hT hS => ?_), fun base hKb hGb hTB => ?_⟩
  · have hP0 := hT (cL, PT) (List.mem_singleton.mpr rfl)
    have hN : ¬ a = PT ∨ KL K a (ns.map V.int) := hS.elim (fun z => .inl fun hb => by
      rw [hb] at z
      rcases z with z | ⟨o, z⟩
      · rw [hP0] at z; cases z
      · rw [hP0] at z; cases z) .inr
    have hR : R K mg (fun b => b = PT) H (.ref a) (.scr ns) := by
      unfold R
      refine ⟨a, rfl, ?_⟩
      rcases hS with z | z
      · rcases hN with n | n
        · exact .inl ⟨n, z⟩
        · exact .inr n
      · exact .inr z
    refine ⟨fun b => b = PT, ns, hl, fun b hb z => ?_, .cons hR .nil, fun p hp => ?_, by simp, fun v H' _ _ _ r => by simpa [R] using r⟩
    · have hb' : b = PT := hb
      rw [hb', hP0] at z; cases z
    · rcases List.mem_singleton.mp hp with rfl
      exact ⟨rfl, tab0 hP0⟩
  have TB := hTB (cL, PT) (List.mem_singleton.mpr rfl)
  have D_draw : DrawD l.prog w K mg base 3 := ok_draw F_draw (PySem.W.mg_of X G a_draw) b_draw B
  have D_one : OneD l.prog w K mg base 4 := ok_one F_one (PySem.W.mg_of X G a_one) b_one B D_draw
  have D_signs : SignsD l.prog w K mg base 5 := ok_signs F_signs (PySem.W.mg_of X G a_signs) b_signs B D_draw D_one
  have T : TrT w K mg CT := ⟨mCT, clCT, ciCT, (by unfold PySem.W.kitOne; rw [if_pos (by simp)]), nCT_own_nodes⟩
  have AL : Al mg := ⟨_, PySem.W.mg_of X G al, ⟨tal, rfl⟩⟩
  have MO : ∃ u, mg "MOST_OPEN" = some u ∧ RelV (.int 300) u := ⟨_, PySem.W.mg_of X G mo, ⟨tmo, rfl⟩⟩
  have D_isLetV : IsLetVD l.prog w K mg base 2 := ok_isLetV' F_isLet (PySem.W.mg_of X G a_isLet) b_isLet B AL
  have D_isLets : IsLetsD l.prog w K mg base 4 := ok_isLets F_isLets (PySem.W.mg_of X G a_isLets) b_isLets D_isLetV B
  have D_isNum : IsNumD l.prog w K mg base 1 := ok_isNum F_isNum (PySem.W.mg_of X G a_isNum) b_isNum B
  have D_chkNodes : ChkNodesD l.prog w K mg base 5 := ok_chkNodes F_chkNodes (PySem.W.mg_of X G a_chkNodes) b_chkNodes B D_isLets D_isNum
  have MK : MkT l.prog w K mg base 6 := ok_tinit F_tinit ⟨CT, mCT, CTmk, a_tinit, i_tinit, CTkc⟩ T D_chkNodes
  have D_tchk := ok_tchk (P := l.prog) (w := w) (base := base) F_tchk ⟨CT, mCT, clCT, a_tchk, i_tchk, k_tchk⟩ b_tchk B T D_isNum
  have D_tat := ok_tat (P := l.prog) (w := w) (base := base) F_tat ⟨CT, mCT, clCT, a_tat, i_tat, k_tat⟩ b_tat B T D_tchk
  have D_tkids := ok_tkids (P := l.prog) (w := w) (base := base) F_tkids ⟨CT, mCT, clCT, a_tkids, i_tkids, k_tkids⟩ b_tkids B T D_tchk
  have D_nt := ok_nodeText (P := l.prog) (w := w) (base := base) F_nodeText (PySem.W.mg_of X G a_nodeText) b_nodeText B T D_tkids D_tat
  have D_ttext : TextT l.prog w K mg base 10 15 := ok_ttext F_ttext ⟨CT, mCT, clCT, a_ttext, i_ttext, k_ttext⟩ b_ttext (D_nt 10)
  have XT : Ox.Err0 l.prog w K mg "InvalidText" "InvalidText" XT_ := err_InvalidText mXT_ S_xt I_xt
  have D_md := ok_madeTree (P := l.prog) (w := w) (base := base) F_madeTree (PySem.W.mg_of X G a_madeTree) b_madeTree MK
  have D_pd : ParsedT l.prog w K mg base 10 19 := ok_parsedT (by decide) F_parsed (PySem.W.mg_of X G a_parsed) b_parsed B MO D_ttext XT D_md
  have FD : FieldOk l.prog w K mg base 1 := ok_field F_field (PySem.W.mg_of X G a_field) b_field
  have XS : Ox.Err0 l.prog w K mg "NotShared" "NotShared" XS_ := err_NotShared mXS_ S_xs I_xs
  have XL : Ox.Err1 l.prog w K mg "InvalidLetters" "InvalidLetters" "given" XL_ := err_InvalidLetters mXL_ S_xl I_xl Emxl
  have D_nodes := ok_tnodes (P := l.prog) (w := w) (base := base) F_tnodes ⟨CT, mCT, clCT, a_tnodes, i_tnodes, k_tnodes⟩ b_tnodes B T
  have D_parse : ParseT l.prog w K mg base 10 20 := ok_parseT F_tparse ⟨CT, _, mCT, crCT, p_tparse, a_tparse, r_tparse, q_tparse⟩ b_tparse D_pd
  exact ok_law l_law c_law TB {
    B := B
    cells := ok_cells F_cells (PySem.W.mg_of X G a_cells) b_cells B
    draw := D_draw
    one := D_one
    signs := D_signs
    rows := ok_rows F_rows (PySem.W.mg_of X G a_rows) b_rows B D_draw
    ltree := ok_ltree F_ltree (PySem.W.mg_of X G a_ltree) b_ltree (by decide) (ok_rowText F_rowText (PySem.W.mg_of X G a_rowText) b_rowText B 10) D_parse
    nodes := D_nodes
    text := D_ttext
    leaf := ok_tleaf F_tleaf ⟨CT, _, mCT, crCT, p_tleaf, a_tleaf, r_tleaf, q_tleaf⟩ b_tleaf D_isLets MK
    join := ok_tjoin F_tjoined ⟨CT, _, mCT, crCT, p_tjoined, a_tjoined, r_tjoined, q_tjoined⟩ B D_isLets MK D_nodes D_tat XS (fun _ _ _ _ _ _ us rest hl => match us, rest, hl with
      | [_], [], _ => rfl
      | [_], _ :: _, _ => rfl)
    joinX := ok_tjoinX F_tjoined ⟨CT, _, mCT, crCT, p_tjoined, a_tjoined, r_tjoined, q_tjoined⟩ D_isLets XL (fun _ _ _ _ _ _ us rest hl => match us, rest, hl with
      | [_], [], _ => rfl
      | [_], _ :: _, _ => rfl)
    same := ok_same F_same (PySem.W.mg_of X G a_same) b_same B
    try' := ok_try F_try (PySem.W.mg_of X G a_try) b_try ⟨⟨_, mC1⟩, ⟨_, mC2⟩, ⟨_, mC3⟩⟩ FD
    caughtS := caught0' mXS_ mC1 mC2 mC3 Elxs ⟨Eixs, Ejxs, E7xs, Ekxs⟩ E3xs (by decide +kernel)
    caughtL := caught1' mXL_ mC1 mC2 mC3 Elxl ⟨Eixl, Ejxl, E7xl, Ekxl⟩ E3xl Emxl (by decide +kernel) (by decide +kernel) }
theorem walkL {l : PySem.W.OpenLaw} {q : Program} {loose : List Str} {XP : (Str → Option Value) → Heap → Prop} {YP : World → Heap → Prop} {d : DefRec} {K : Params → PySem.W.Frag} (hn : l.most = some 63) (hdf : d.params.defaults = []) (hrec : ((recsOf q).any fun e => e.name == d.name) = true)
    (hY : ∀ (w : World) (h : Heap), YP w h → (K w.params).In h)
    (F : ∀ (w : World) (mg : Str → Option Value) (fa : Addr) (h : Heap), (K w.params).In h → h.Ns mainGlobals mg → mg d.name = some (.ref fa) → OwnTab (K w.params) fa h → LawAtS l w (K w.params) (L2.CX l.prog w) 41 63 "_law_script" mg fa h) :
    PySem.W.WalkO q loose XP YP l.row.toRowW d [] (fun f vs => PySem.call f vs) :=
  walk_ofOwn (CX := fun w => L2.CX l.prog w) hn (by decide) hdf ⟨rfl, by decide, by decide⟩ hrec hY (fun w mg fa h _ KX G hm own => F w mg fa h KX G hm own) fun w H s e s' z => cx_no z
end Od

open PySem PySem.W PyProof.Rows
set_option maxRecDepth 100000 in
set_option maxHeartbeats 0 in
theorem PySem.Challenge.cw_oneroot_k13_trees_joined_holds : PySem.Challenge.rw_oneroot_k13_trees_joined.Holds := by
  w_on; o_law; k_head; (case hw => w_witness2)
  k_fill
  refine Od.walkL (l := PySem.Challenge.rw_oneroot_k13_trees_joined) rfl rfl (by decide +kernel) (fun w h Y => PySem.W.km_in_of Y) ?F
  case F =>
    intro w mg fa h KX G hmg own
    refine' Od.all_mk KX G hmg own ?a_isLet ?l_isLet ?c_isLet ?k_isLet ?a_isLets ?l_isLets ?c_isLets ?k_isLets ?a_isNum ?l_isNum ?c_isNum ?k_isNum ?a_chkNodes ?l_chkNodes ?c_chkNodes ?k_chkNodes ?a_nodeText ?l_nodeText ?c_nodeText ?k_nodeText ?a_parsed ?l_parsed ?c_parsed ?k_parsed ?a_madeTree ?l_madeTree ?c_madeTree ?k_madeTree ?a_cells ?l_cells ?c_cells ?k_cells ?a_draw ?l_draw ?c_draw ?k_draw ?a_one ?l_one ?c_one ?k_one ?a_same ?l_same ?c_same ?k_same ?a_signs ?l_signs ?c_signs ?k_signs ?a_rows ?l_rows ?c_rows ?k_rows ?a_rowText ?l_rowText ?c_rowText ?k_rowText ?a_ltree ?l_ltree ?c_ltree ?k_ltree ?a_field ?l_field ?c_field ?k_field ?a_try ?l_try ?c_try ?k_try ?a_law ?l_law ?c_law ?k_law ?lkC ?lkP ?lkN ?lkH ?aCT ?aC1 ?aC2 ?aC3 ?aXT_ ?aXS_ ?aXL_ ?a_tinit ?i_tinit ?l_tinit ?c_tinit ?k_tinit ?a_tnodes ?i_tnodes ?l_tnodes ?c_tnodes ?k_tnodes ?a_tchk ?i_tchk ?l_tchk ?c_tchk ?k_tchk ?a_tat ?i_tat ?l_tat ?c_tat ?k_tat ?a_tkids ?i_tkids ?l_tkids ?c_tkids ?k_tkids ?a_ttext ?i_ttext ?l_ttext ?c_ttext ?k_ttext ?a_tparse ?q_tparse ?l_tparse ?c_tparse ?k_tparse ?a_tleaf ?q_tleaf ?l_tleaf ?c_tleaf ?k_tleaf ?a_tjoined ?q_tjoined ?l_tjoined ?c_tjoined ?k_tjoined ?CTpg ?CThd ?CTpo ?CTsa ?CTmk ?CTkc ?CTca ?CTcm ?CTrd ?CTga ?cn ?ct ?nCT_own_nodes ?E0xt ?E1xt ?E2xt ?E3xt ?E4xt ?E5xt ?E6xt ?E7xt ?E8xt ?E9xt ?Eaxt ?Ebxt ?Ecxt ?Edxt ?Eext ?Efxt ?Egxt ?Ehxt ?Eixt ?Ejxt ?Ekxt ?Elxt ?E0xs ?E1xs ?E2xs ?E3xs ?E4xs ?E5xs ?E6xs ?E7xs ?E8xs ?E9xs ?Eaxs ?Ebxs ?Ecxs ?Edxs ?Eexs ?Efxs ?Egxs ?Ehxs ?Eixs ?Ejxs ?Ekxs ?Elxs ?E0xl ?E1xl ?E2xl ?E3xl ?E4xl ?E5xl ?E6xl ?E7xl ?E8xl ?E9xl ?Eaxl ?Ebxl ?Ecxl ?Edxl ?Eexl ?Efxl ?Egxl ?Ehxl ?Eixl ?Ejxl ?Ekxl ?Elxl ?Emxl ?Es1 ?Es2 ?Es3 ?al ?mo ?z_len ?z_int ?z_list ?z_sorted ?z_range ?z_isinstance ?z_all ?z_any ?z_zip ?z_sum ?z_max ?z_str ?z_bool ?z_tuple ?z_set
    (case a_isLet => k_is); (case l_isLet => k_is); (case c_isLet => k_is); (case k_isLet => k_is); (case a_isLets => k_is); (case l_isLets => k_is)
    (case c_isLets => k_is); (case k_isLets => k_is); (case a_isNum => k_is); (case l_isNum => k_is); (case c_isNum => k_is); (case k_isNum => k_is)
    (case a_chkNodes => k_is); (case l_chkNodes => k_is); (case c_chkNodes => k_is); (case k_chkNodes => k_is); (case a_nodeText => k_is); (case l_nodeText => k_is)
    (case c_nodeText => k_is); (case k_nodeText => k_is); (case a_parsed => k_is); (case l_parsed => k_is); (case c_parsed => k_is); (case k_parsed => k_is)
    (case a_madeTree => k_is); (case l_madeTree => k_is); (case c_madeTree => k_is); (case k_madeTree => k_is); (case a_cells => k_is); (case l_cells => k_is)
    (case c_cells => k_is); (case k_cells => k_is); (case a_draw => k_is); (case l_draw => k_is); (case c_draw => k_is); (case k_draw => k_is)
    (case a_one => k_is); (case l_one => k_is); (case c_one => k_is); (case k_one => k_is); (case a_same => k_is); (case l_same => k_is)
    (case c_same => k_is); (case k_same => k_is); (case a_signs => k_is); (case l_signs => k_is); (case c_signs => k_is); (case k_signs => k_is)
    (case a_rows => k_is); (case l_rows => k_is); (case c_rows => k_is); (case k_rows => k_is); (case a_rowText => k_is); (case l_rowText => k_is)
    (case c_rowText => k_is); (case k_rowText => k_is); (case a_ltree => k_is); (case l_ltree => k_is); (case c_ltree => k_is); (case k_ltree => k_is)
    (case a_field => k_is); (case l_field => k_is); (case c_field => k_is); (case k_field => k_is); (case a_try => k_is); (case l_try => k_is)
    (case c_try => k_is); (case k_try => k_is); (case a_law => k_is); (case l_law => k_is); (case c_law => k_is); (case k_law => k_is)
    (case lkC => k_is); (case lkP => exact rfl); (case lkN => kernel_rfl); (case lkH => kernel_rfl); (case aCT => k_is); (case aC1 => k_is)
    (case aC2 => k_is); (case aC3 => k_is); (case aXT_ => k_is); (case aXS_ => k_is); (case aXL_ => k_is); (case a_tinit => k_is)
    (case i_tinit => k_is); (case l_tinit => k_is); (case c_tinit => k_is); (case k_tinit => k_is); (case a_tnodes => k_is); (case i_tnodes => k_is)
    (case l_tnodes => k_is); (case c_tnodes => k_is); (case k_tnodes => k_is); (case a_tchk => k_is); (case i_tchk => k_is); (case l_tchk => k_is)
    (case c_tchk => k_is); (case k_tchk => k_is); (case a_tat => k_is); (case i_tat => k_is); (case l_tat => k_is); (case c_tat => k_is)
    (case k_tat => k_is); (case a_tkids => k_is); (case i_tkids => k_is); (case l_tkids => k_is); (case c_tkids => k_is); (case k_tkids => k_is)
    (case a_ttext => k_is); (case i_ttext => k_is); (case l_ttext => k_is); (case c_ttext => k_is); (case k_ttext => k_is); (case a_tparse => k_is)
    (case q_tparse => k_is); (case l_tparse => k_is); (case c_tparse => k_is); (case k_tparse => k_is); (case a_tleaf => k_is); (case q_tleaf => k_is)
    (case l_tleaf => k_is); (case c_tleaf => k_is); (case k_tleaf => k_is); (case a_tjoined => k_is); (case q_tjoined => k_is); (case l_tjoined => k_is)
    (case c_tjoined => k_is); (case k_tjoined => k_is); (case CTpg => k_is); (case CThd => k_is); (case CTpo => k_is); (case CTsa => k_is)
    (case CTmk => k_is); (case CTkc => k_is); (case CTca => k_is); (case CTcm => k_is); (case CTrd => k_is); (case CTga => k_is)
    (case cn => k_is); (case ct => k_is); (case nCT_own_nodes => k_is); (case E0xt => k_is); (case E1xt => kernel_rfl); (case E2xt => k_is)
    (case E3xt => k_is); (case E4xt => k_is); (case E5xt => k_is); (case E6xt => k_is); (case E7xt => k_is); (case E8xt => k_is)
    (case E9xt => k_is); (case Eaxt => kernel_rfl); (case Ebxt => k_is); (case Ecxt => k_is); (case Edxt => k_is); (case Eext => exact rfl)
    (case Efxt => kernel_rfl); (case Egxt => k_is); (case Ehxt => k_is); (case Eixt => k_is); (case Ejxt => k_is); (case Ekxt => k_is)
    (case Elxt => kernel_rfl); (case E0xs => k_is); (case E1xs => kernel_rfl); (case E2xs => k_is); (case E3xs => k_is); (case E4xs => k_is)
    (case E5xs => k_is); (case E6xs => k_is); (case E7xs => k_is); (case E8xs => k_is); (case E9xs => k_is); (case Eaxs => kernel_rfl)
    (case Ebxs => k_is); (case Ecxs => k_is); (case Edxs => k_is); (case Eexs => exact rfl); (case Efxs => kernel_rfl); (case Egxs => k_is)
    (case Ehxs => k_is); (case Eixs => k_is); (case Ejxs => k_is); (case Ekxs => k_is); (case Elxs => kernel_rfl); (case E0xl => k_is)
    (case E1xl => kernel_rfl); (case E2xl => k_is); (case E3xl => k_is); (case E4xl => k_is); (case E5xl => k_is); (case E6xl => k_is)
    (case E7xl => k_is); (case E8xl => k_is); (case E9xl => k_is); (case Eaxl => kernel_rfl); (case Ebxl => k_is); (case Ecxl => k_is)
    (case Edxl => k_is); (case Eexl => exact rfl); (case Efxl => kernel_rfl); (case Egxl => k_is); (case Ehxl => k_is); (case Eixl => k_is)
    (case Ejxl => k_is); (case Ekxl => k_is); (case Elxl => kernel_rfl); (case Emxl => k_is); (case Es1 => k_is); (case Es2 => k_is)
    (case Es3 => kernel_rfl); (case al => k_is); (case mo => k_is); (case z_len => k_is); (case z_int => k_is); (case z_list => k_is)
    (case z_sorted => k_is); (case z_range => k_is); (case z_isinstance => k_is); (case z_all => k_is); (case z_any => k_is); (case z_zip => k_is)
    (case z_sum => k_is); (case z_max => k_is); (case z_str => k_is); (case z_bool => k_is); (case z_tuple => k_is); (case z_set => k_is)

