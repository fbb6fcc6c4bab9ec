import PyProof.Rows.All
import Wide.All
import OpenK.AllK
import Wide.FinOn
import HandS.ForMost
import HandS.ForExc
import HandS.Star
import HandS.Property
import HandS.IsInst
import HandS.Wide
import HandS.EndBits
import HandS.SortKw
import HandS.TupAny
import HandS.ClsMeth
import HandS.FStr
import HandS.RaiseMore
import HandS.Nested
import KE.KMinKey
import HandS.SlotsOwn
import KE.KOpsOwn
import PySem.Challenge.RW_oneroot_k09_formulas_filled
import HandS.Text
import KE.KCallOwn
import KE.KFmtOwn
import PyProof.InstEq
import HandS.StrMore
import HandS.Steps
import HandS.Zip
import KE.KExcSuper
import HandS.ExcInit
import HandS.ExcField
import HandS.ExcSuper
import HandS.HotCalls
import KE.KTryMore
import KE.KUnpackStar
import HandS.SetFor
import HandS.SetTxt0
import HandS.More
import PyProof.ListStr
import PyProof.StrWalks
import HandS.Style
import HandS.EndOwn
set_option Elab.async false
set_option linter.all false
set_option maxRecDepth 100000
set_option maxHeartbeats 4000000
/-! Od1: pure data D, how values bear it, and what expressions give in such terms. -/
namespace Od
open PySem L2

/-- a lambda: its words, the cells that it captured, the ints that stand as defaults -/
structure LamF where
  qual : Str
  params : Arguments
  body : Expr
  scope : Scope
  cl : List (Str × Addr)
  dvs : List Int
/-- the object at f is that lambda -/
def LamO (f : Addr) (L : LamF) (dV : Value) (c' : Addr) : HO := .ext fun h => ∃ pm ctv : Value, h.get? f = some ({ cls := .type "function", data := .func { name := "<lambda>", qualname := L.qual, params := L.params, body := .expr L.body, scope := L.scope, globals := mainGlobals, closure := L.cl, defaults := dV, kwdefaults := .none, doc := .none, pyModule := pm, annotations := none, code := .ref c', closureTuple := ctv, builtins := builtinsNs } } : Obj)
/-- what a value stands for -/
inductive D where
  | lam (L : LamF)
  | non | bl (b : Bool) | int (i : Int) | str (s : Str) | ref (a : Addr) | ty (n : String)
  | lst (xs : List D) | tup (xs : List D) | obj (c : Str) (ns : List Str) (ds : List D) | dic (ks : List Key) (ds : List D) | scr (ns : List Int) | exc (a dd : Addr) (ns : List Str) (ds : List D)

/-- what a thing that may change holds -/
inductive MC where
  | tab (q : Str)
  | lst (xs : List D) | obj (c : Str) (ns : List Str) (ds : List D) | dic (ks : List Key) (ds : List D)

/-- a tuple of the written part -/
def KT (K : PySem.W.Frag) (a : Addr) (xs : List V) : Prop :=
  ∃ (o : Obj) (its : Array Value) (n : Nat), K.lookup a = some o ∧ o.cls = .type "tuple" ∧ o.data = .seq its n ∧ its.size ≤ sizeLine ∧ Vals xs its.toList

/-- a list of the written part -/
def KL (K : PySem.W.Frag) (a : Addr) (xs : List V) : Prop :=
  ∃ (o : Obj) (its : Array Value) (n : Nat), K.lookup a = some o ∧ o.cls = .type "list" ∧ o.dict = none ∧ o.data = .seq its n ∧ its.size ≤ sizeLine ∧ Vals xs its.toList

section
variable (K : PySem.W.Frag) (mg : Str → Option Value) (M : Addr → Prop) (H : Hp)
/-- a lambda stands there -/
def Lams (v : V) (L : LamF) : Prop := ∃ (f c' : Addr) (dV : Value), v = .ref f ∧ ¬ M f ∧ H f = some (LamO f L dV c') ∧ ¬ M c' ∧ H c' = some (LamX.CodeO c' L.qual) ∧ ((L.dvs = [] ∧ dV = .none) ∨ ∃ t, dV = .ref t ∧ ¬ M t ∧ H t = some (.tup (L.dvs.map V.int)))
mutual
def R : V → D → Prop
  | v, .lam L => Lams M H v L
  | v, .non => v = .non
  | v, .bl b => v = .bl b
  | v, .int i => v = .int i
  | v, .str s => v = .str s
  | v, .ref a => v = .ref a
  | v, .ty n => v = .ty n
  | v, .lst ds => ∃ a xs, v = .ref a ∧ ¬ M a ∧ H a = some (.lst xs) ∧ Rs xs ds
  | v, .tup ds => ∃ a xs, v = .ref a ∧ ((¬ M a ∧ H a = some (.tup xs)) ∨ KT K a xs) ∧ Rs xs ds
  | v, .obj c ns ds => ∃ a C dx xs, v = .ref a ∧ ¬ M a ∧ mg c = some (.ref C) ∧ H a = some (.ins C dx (ns.zip xs)) ∧ ns.length = xs.length ∧ Rs xs ds
  | v, .dic ks ds => ∃ a xs, v = .ref a ∧ ¬ M a ∧ Rd H a (.dK (ks.zip xs)) ∧ ks.length = xs.length ∧ Rs xs ds
  | v, .exc a dd ns ds => ∃ xs, v = .ref a ∧ ¬ M dd ∧ H dd = some (.xd (ns.zip xs)) ∧ ns.length = xs.length ∧ Rs xs ds
  | v, .scr ns => ∃ a, v = .ref a ∧ ((¬ M a ∧ Rd H a (.lst (ns.map V.int))) ∨ KL K a (ns.map V.int))
def Rs : List V → List D → Prop
  | [], [] => True
  | x :: xs, d :: ds => R x d ∧ Rs xs ds
  | [], _ :: _ => False
  | _ :: _, [] => False
end
def Cell (a : Addr) : MC → Prop
  | .tab q => ∃ ps : Array Value, H a = some (.tbl ps) ∧ TriplesOk ps.toList ∧ ∀ (pos : Pos) (cv : Value), codeAmong pos ps.toList = some cv → ∃ c, cv = .ref c ∧ ¬ M c ∧ H c = some (LamX.CodeO c q)
  | .lst ds => ∃ xs, H a = some (.lst xs) ∧ Rs K mg M H xs ds
  | .obj c ns ds => ∃ C dx xs, mg c = some (.ref C) ∧ H a = some (.ins C dx (ns.zip xs)) ∧ ns.length = xs.length ∧ Rs K mg M H xs ds
  | .dic ks ds => ∃ xs, H a = some (.dK (ks.zip xs)) ∧ ks.length = xs.length ∧ Rs K mg M H xs ds
end

abbrev Cs := List (Addr × MC)
abbrev DE := List (Option D)
def Ext (A : List Addr) (H H' : Hp) : Prop := ∀ a o, H a = some o → a ∉ A → H' a = some o
theorem Ext.refl (A : List Addr) (H : Hp) : Ext A H H := fun _ _ h _ => h
theorem Ext.trans {A : List Addr} {H H1 H2 : Hp} (x : Ext A H H1) (y : Ext A H1 H2) : Ext A H H2 := fun a o h n => y a o (x a o h n) n
theorem Ext.mono {A B : List Addr} {H H' : Hp} (x : Ext A H H') (h : ∀ a ∈ A, a ∈ B) : Ext B H H' := fun a o e n => x a o e fun z => n (h a z)
theorem Ext.new {A : List Addr} {H : Hp} {p : Addr} {o : HO} (h : H p = none) : Ext A H (upd H p o) := fun a u e _ => by
  rw [upd_ne (ne_of_none e h)]; exact e

section
variable {K : PySem.W.Frag} {mg : Str → Option Value} {M M' : Addr → Prop} {H H' : Hp}
theorem rd_ext {a : Addr} {u : HO} (k : ∀ o, H a = some o → H' a = some o) (h : Rd H a u) : Rd H' a u := by
  rcases h with h | ⟨o, h⟩
  · exact .inl (k _ h)
  · exact .inr ⟨o, k _ h⟩
theorem Lams.ext (k : ∀ a o, ¬ M a → H a = some o → H' a = some o) (m : ∀ a, ¬ M a → H a ≠ none → ¬ M' a) {v : V} {L : LamF} (h : Lams M H v L) : Lams M' H' v L := by
  obtain ⟨f, c', dV, e, n1, h1, n2, h2, h3⟩ := h
  refine ⟨f, c', dV, e, m f n1 (by rw [h1]; simp), k f _ n1 h1, m c' n2 (by rw [h2]; simp), k c' _ n2 h2, h3.imp_right fun ⟨t, e1, n3, q⟩ => ⟨t, e1, m t n3 (by rw [q]; simp), k t _ n3 q⟩⟩
mutual
/-- carried to a heap that keeps what is not marked, with marks on nothing that it leans on -/
theorem R.ext (k : ∀ a o, ¬ M a → H a = some o → H' a = some o) (m : ∀ a, ¬ M a → H a ≠ none → ¬ M' a) : ∀ (d : D) {v : V}, R K mg M H v d → R K mg M' H' v d
  | .lam _, _, h => by
    unfold R at h ⊢
    exact h.ext k m
  | .non, _, h => h
  | .bl _, _, h => h
  | .int _, _, h => h
  | .str _, _, h => h
  | .ref _, _, h => h
  | .ty _, _, h => h
  | .lst ds, v, h => by
    unfold R at h ⊢
    obtain ⟨a, xs, e, n, q, r⟩ := h
    exact ⟨a, xs, e, m a n (by rw [q]; simp), k a _ n q, Rs.ext k m ds r⟩
  | .tup ds, v, h => by
    unfold R at h ⊢
    obtain ⟨a, xs, e, q, r⟩ := h
    refine ⟨a, xs, e, ?_, Rs.ext k m ds r⟩
    rcases q with ⟨n, q⟩ | q
    · exact .inl ⟨m a n (by rw [q]; simp), k a _ n q⟩
    · exact .inr q
  | .obj c ns ds, v, h => by
    unfold R at h ⊢
    obtain ⟨a, C, dx, xs, e, n, g, q, l, r⟩ := h
    exact ⟨a, C, dx, xs, e, m a n (by rw [q]; simp), g, k a _ n q, l, Rs.ext k m ds r⟩
  | .dic ks ds, v, h => by
    unfold R at h ⊢
    obtain ⟨a, xs, e, n, q, l, r⟩ := h
    exact ⟨a, xs, e, m a n (by rcases q with q | ⟨o, q⟩ <;> rw [q] <;> simp), rd_ext (fun o => k a o n) q, l, Rs.ext k m ds r⟩
  | .exc a dd ns ds, v, h => by
    unfold R at h ⊢
    obtain ⟨xs, e, n, q, l, r⟩ := h
    exact ⟨xs, e, m dd n (by rw [q]; simp), k dd _ n q, l, Rs.ext k m ds r⟩
  | .scr ns, v, h => by
    unfold R at h ⊢
    obtain ⟨a, e, q⟩ := h
    refine ⟨a, e, ?_⟩
    rcases q with ⟨n, q⟩ | q
    · refine .inl ⟨m a n ?_, rd_ext (fun o => k a o n) q⟩
      rcases q with q | ⟨o, q⟩ <;> rw [q] <;> simp
    · exact .inr q
theorem Rs.ext (k : ∀ a o, ¬ M a → H a = some o → H' a = some o) (m : ∀ a, ¬ M a → H a ≠ none → ¬ M' a) : ∀ (ds : List D) {xs : List V}, Rs K mg M H xs ds → Rs K mg M' H' xs ds
  | [], [], _ => by unfold Rs; trivial
  | [], _ :: _, h => by unfold Rs at h; exact h.elim
  | _ :: _, [], h => by unfold Rs at h; exact h.elim
  | d :: ds, x :: xs, h => by
    unfold Rs at h ⊢
    exact ⟨R.ext k m d h.1, Rs.ext k m ds h.2⟩
end
theorem Rs.nil : Rs K mg M H [] [] := by unfold Rs; trivial
theorem Rs.cons {x : V} {d : D} {xs : List V} {ds : List D} (h : R K mg M H x d) (t : Rs K mg M H xs ds) : Rs K mg M H (x :: xs) (d :: ds) := by unfold Rs; exact ⟨h, t⟩
theorem Rs.length : ∀ {xs : List V} {ds : List D}, Rs K mg M H xs ds → xs.length = ds.length
  | [], [], _ => rfl
  | _ :: _, _ :: _, h => by
    unfold Rs at h
    simp [Rs.length h.2]
  | [], _ :: _, h => by unfold Rs at h; exact h.elim
  | _ :: _, [], h => by unfold Rs at h; exact h.elim
theorem Rs.get : ∀ {xs : List V} {ds : List D} {i : Nat} {d : D}, Rs K mg M H xs ds → ds[i]? = some d → ∃ x, xs[i]? = some x ∧ R K mg M H x d
  | [], [], i, d, _, e => by simp at e
  | x :: xs, d' :: ds, 0, d, h, e => by
    unfold Rs at h
    simp at e; subst e
    exact ⟨x, rfl, h.1⟩
  | x :: xs, d' :: ds, i + 1, d, h, e => by
    unfold Rs at h
    obtain ⟨y, e1, r⟩ := Rs.get (i := i) (d := d) h.2 (by simpa using e)
    exact ⟨y, by simpa using e1, r⟩
  | [], _ :: _, _, _, h, _ => by unfold Rs at h; exact h.elim
  | _ :: _, [], _, _, h, _ => by unfold Rs at h; exact h.elim
theorem Rs.getV : ∀ {xs : List V} {ds : List D} {i : Nat} {x : V}, Rs K mg M H xs ds → xs[i]? = some x → ∃ d, ds[i]? = some d ∧ R K mg M H x d
  | [], [], i, x, _, e => by simp at e
  | y :: xs, d' :: ds, 0, x, h, e => by
    unfold Rs at h
    simp at e; subst e
    exact ⟨d', rfl, h.1⟩
  | y :: xs, d' :: ds, i + 1, x, h, e => by
    unfold Rs at h
    obtain ⟨y, e1, r⟩ := Rs.getV (i := i) (x := x) h.2 (by simpa using e)
    exact ⟨y, by simpa using e1, r⟩
  | [], _ :: _, _, _, h, _ => by unfold Rs at h; exact h.elim
  | _ :: _, [], _, _, h, _ => by unfold Rs at h; exact h.elim
theorem Rs.append : ∀ {xs ys : List V} {ds es : List D}, Rs K mg M H xs ds → Rs K mg M H ys es → Rs K mg M H (xs ++ ys) (ds ++ es)
  | [], _, [], _, _, t => t
  | _ :: _, _, _ :: _, _, h, t => by
    unfold Rs at h
    exact Rs.cons h.1 (Rs.append h.2 t)
  | [], _, _ :: _, _, h, _ => by unfold Rs at h; exact h.elim
  | _ :: _, _, [], _, h, _ => by unfold Rs at h; exact h.elim
theorem Rs.drop : ∀ {xs : List V} {ds : List D} (n : Nat), Rs K mg M H xs ds → Rs K mg M H (xs.drop n) (ds.drop n)
  | _, _, 0, h => by simpa using h
  | [], [], n + 1, h => by simpa using h
  | _ :: _, _ :: _, n + 1, h => by
    unfold Rs at h
    simpa using Rs.drop n h.2
  | [], _ :: _, _ + 1, h => by unfold Rs at h; exact h.elim
  | _ :: _, [], _ + 1, h => by unfold Rs at h; exact h.elim
theorem Rs.take : ∀ {xs : List V} {ds : List D} (n : Nat), Rs K mg M H xs ds → Rs K mg M H (xs.take n) (ds.take n)
  | _, _, 0, h => by simpa using Rs.nil
  | [], [], n + 1, h => by simpa using h
  | _ :: _, _ :: _, n + 1, h => by
    unfold Rs at h
    simpa using Rs.cons h.1 (Rs.take n h.2)
  | [], _ :: _, _ + 1, h => by unfold Rs at h; exact h.elim
  | _ :: _, [], _ + 1, h => by unfold Rs at h; exact h.elim
theorem Rs.set : ∀ {xs : List V} {ds : List D} {x : V} {d : D} (n : Nat), Rs K mg M H xs ds → R K mg M H x d → Rs K mg M H (xs.set n x) (ds.set n d)
  | [], [], _, _, _, h, _ => by simpa using h
  | _ :: _, _ :: _, _, _, 0, h, r => by
    unfold Rs at h
    exact Rs.cons r h.2
  | _ :: _, _ :: _, _, _, n + 1, h, r => by
    unfold Rs at h
    exact Rs.cons h.1 (Rs.set n h.2 r)
  | [], _ :: _, _, _, _, h, _ => by unfold Rs at h; exact h.elim
  | _ :: _, [], _, _, _, h, _ => by unfold Rs at h; exact h.elim
theorem rs1 {vs : List V} {d : D} (h : Rs K mg M H vs [d]) : ∃ v, vs = [v] ∧ R K mg M H v d := by
  cases vs with
  | nil => unfold Rs at h; exact h.elim
  | cons v vs =>
    unfold Rs at h
    obtain ⟨h1, h2⟩ := h
    cases vs with
    | nil => exact ⟨v, rfl, h1⟩
    | cons u us => unfold Rs at h2; exact h2.elim
theorem rs2 {vs : List V} {d d2 : D} (h : Rs K mg M H vs [d, d2]) : ∃ v u, vs = [v, u] ∧ R K mg M H v d ∧ R K mg M H u d2 := by
  cases vs with
  | nil => unfold Rs at h; exact h.elim
  | cons v vs =>
    unfold Rs at h
    obtain ⟨h1, h2⟩ := h
    obtain ⟨u, rfl, h3⟩ := rs1 h2
    exact ⟨v, u, rfl, h1, h3⟩
theorem Rs.ints : ∀ {xs : List V} {ns : List Int}, Rs K mg M H xs (ns.map D.int) ↔ xs = ns.map V.int
  | [], [] => by simp [Rs]
  | [], _ :: _ => by simp [Rs]
  | _ :: _, [] => by simp [Rs]
  | x :: xs, n :: ns => by
    have ih := Rs.ints (xs := xs) (ns := ns)
    simp [Rs, R, ih]
theorem Rs.strs : ∀ {xs : List V} {ns : List Str}, Rs K mg M H xs (ns.map D.str) ↔ xs = ns.map V.str
  | [], [] => by simp [Rs]
  | [], _ :: _ => by simp [Rs]
  | _ :: _, [] => by simp [Rs]
  | x :: xs, n :: ns => by
    have ih := Rs.strs (xs := xs) (ns := ns)
    simp [Rs, R, ih]
theorem Rs.bls : ∀ {xs : List V} {ns : List Bool}, Rs K mg M H xs (ns.map D.bl) ↔ xs = ns.map V.bl
  | [], [] => by simp [Rs]
  | [], _ :: _ => by simp [Rs]
  | _ :: _, [] => by simp [Rs]
  | x :: xs, n :: ns => by
    have ih := Rs.bls (xs := xs) (ns := ns)
    simp [Rs, R, ih]
theorem Cell.ext (k : ∀ a o, ¬ M a → H a = some o → H' a = some o) (m : ∀ a, ¬ M a → H a ≠ none → ¬ M' a) {a : Addr} (ka : ∀ o, H a = some o → H' a = some o) : ∀ {c : MC}, Cell K mg M H a c → Cell K mg M' H' a c
  | .tab _, ⟨ps, q, t, r⟩ => ⟨ps, ka _ q, t, fun pos cv hc => by
      obtain ⟨c, e1, n, h1⟩ := r pos cv hc
      exact ⟨c, e1, m c n (by rw [h1]; simp), k c _ n h1⟩⟩
  | .lst _, ⟨xs, q, r⟩ => ⟨xs, ka _ q, Rs.ext k m _ r⟩
  | .obj _ _ _, ⟨C, dx, xs, g, q, l, r⟩ => ⟨C, dx, xs, g, ka _ q, l, Rs.ext k m _ r⟩
  | .dic _ _, ⟨xs, q, l, r⟩ => ⟨xs, ka _ q, l, Rs.ext k m _ r⟩
theorem Cell.ne {a : Addr} : ∀ {c : MC}, Cell K mg M H a c → H a ≠ none
  | .tab _, ⟨ps, q, _⟩ => by rw [q]; simp
  | .lst _, ⟨xs, q, r⟩ => by rw [q]; simp
  | .obj _ _ _, ⟨C, dx, xs, g, q, l, r⟩ => by rw [q]; simp
  | .dic _ _, ⟨xs, q, l, r⟩ => by rw [q]; simp
end

/-- where one stands: the names' data, the things that may change -/
structure Sit (K : PySem.W.Frag) (mg : Str → Option Value) (M : Addr → Prop) (σ : L2.St) (H : Hp) (e : DE) (cs : Cs) : Prop where
  mt : ∀ a, M a → H a ≠ none
  len : σ.length = e.length
  env : ∀ (i : Nat) (d : D), e[i]? = some (some d) → ∃ v : V, σ[i]? = some (some v) ∧ R K mg M H v d
  cel : ∀ p ∈ cs, M p.1 ∧ Cell K mg M H p.1 p.2
  nd : (cs.map (·.1)).Nodup
abbrev dom (cs : Cs) : List Addr := cs.map (·.1)

section
variable {K : PySem.W.Frag} {mg : Str → Option Value} {M : Addr → Prop} {H H' : Hp} {σ : L2.St} {e : DE} {cs cs' : Cs}
theorem Sit.keeps (S : Sit K mg M σ H e cs) (x : Ext (dom cs) H H') : ∀ a o, ¬ M a → H a = some o → H' a = some o := fun a o n h => x a o h fun z => by
  obtain ⟨p, hp, rfl⟩ := List.mem_map.mp z
  exact n (S.cel p hp).1
theorem Sit.r (S : Sit K mg M σ H e cs) (x : Ext (dom cs) H H') {v : V} {d : D} (r : R K mg M H v d) : R K mg M H' v d := R.ext (S.keeps x) (fun _ n _ => n) d r
theorem Sit.rs (S : Sit K mg M σ H e cs) (x : Ext (dom cs) H H') {v : List V} {d : List D} (r : Rs K mg M H v d) : Rs K mg M H' v d := Rs.ext (S.keeps x) (fun _ n _ => n) d r
/-- nothing that may change has changed -/
theorem Sit.ex (S : Sit K mg M σ H e cs) (x : Ext [] H H') : Sit K mg M σ H' e cs where
  mt := fun a m z => by
    cases q : H a with
    | none => exact S.mt a m q
    | some o => rw [x a o q (by simp)] at z; cases z
  len := S.len
  env := fun i d q => by
    obtain ⟨v, e1, r⟩ := S.env i d q
    exact ⟨v, e1, R.ext (fun a o _ h => x a o h (by simp)) (fun _ n _ => n) d r⟩
  cel := fun p hp => ⟨(S.cel p hp).1, (S.cel p hp).2.ext (fun a o _ h => x a o h (by simp)) (fun _ n _ => n) fun o h => x _ o h (by simp)⟩
  nd := S.nd
/-- the things that may change have become cs' -/
theorem Sit.step (S : Sit K mg M σ H e cs) (hd : dom cs' = dom cs) (x : Ext (dom cs) H H') (mt : ∀ a, M a → H' a ≠ none) (hc : ∀ p ∈ cs', M p.1 ∧ Cell K mg M H' p.1 p.2) : Sit K mg M σ H' e cs' where
  mt := mt
  len := S.len
  env := fun i d q => by
    obtain ⟨v, e1, r⟩ := S.env i d q
    exact ⟨v, e1, S.r x r⟩
  cel := hc
  nd := by rw [show cs'.map (·.1) = cs.map (·.1) from hd]; exact S.nd
theorem Sit.set (S : Sit K mg M σ H e cs) {v : V} {d : D} (i : Nat) (r : R K mg M H v d) : Sit K mg M (σ.set i (some v)) H (e.set i (some d)) cs where
  mt := S.mt
  len := by simp [S.len]
  env := fun j d' q => by
    by_cases hj : i = j
    · subst hj
      by_cases hi : i < e.length
      · rw [List.getElem?_set_self hi] at q
        cases q
        exact ⟨v, by rw [List.getElem?_set_self (by rw [S.len]; exact hi)], r⟩
      · rw [List.getElem?_eq_none (by simpa using hi)] at q; cases q
    · rw [List.getElem?_set_ne hj] at q
      obtain ⟨v', e1, r'⟩ := S.env j d' q
      exact ⟨v', by rw [List.getElem?_set_ne hj]; exact e1, r'⟩
  cel := S.cel
  nd := S.nd
/-- a slot forgotten -/
theorem Sit.wipe1 (S : Sit K mg M σ H e cs) (i : Nat) : Sit K mg M (σ.set i none) H (e.set i none) cs where
  mt := S.mt
  len := by simp [S.len]
  env := fun j d' q => by
    by_cases hj : i = j
    · subst hj
      by_cases hi : i < e.length
      · rw [List.getElem?_set_self hi] at q; cases q
      · rw [List.getElem?_eq_none (by simpa using hi)] at q; cases q
    · rw [List.getElem?_set_ne hj] at q
      obtain ⟨v', e1, r'⟩ := S.env j d' q
      exact ⟨v', by rw [List.getElem?_set_ne hj]; exact e1, r'⟩
  cel := S.cel
  nd := S.nd
def wipeD (e : DE) : List Nat → DE
  | [] => e
  | v :: vs => (wipeD e vs).set v none
theorem Sit.wipe (S : Sit K mg M σ H e cs) : ∀ vs : List Nat, Sit K mg M (L2.wipe σ vs) H (wipeD e vs) cs
  | [] => S
  | v :: vs => by
    unfold L2.wipe wipeD
    exact (Sit.wipe S vs).wipe1 v
/-- a new thing, marked -/
theorem Sit.mark (S : Sit K mg M σ H e cs) {p : Addr} {o : HO} (hp : H p = none) : Sit K mg (fun a => M a ∨ a = p) σ (upd H p o) e cs where
  mt := fun a m => by
    by_cases h : a = p
    · subst h; rw [upd_same]; simp
    · rw [upd_ne h]; exact S.mt a (m.resolve_right h)
  len := S.len
  env := fun i d q => by
    obtain ⟨v, e1, r⟩ := S.env i d q
    exact ⟨v, e1, R.ext (fun a u _ h => by rw [upd_ne (ne_of_none h hp)]; exact h) (fun a n h z => z.elim n fun z => h (z ▸ hp)) d r⟩
  cel := fun q hq => by
    obtain ⟨m, c⟩ := S.cel q hq
    refine ⟨.inl m, c.ext (fun a u _ h => by rw [upd_ne (ne_of_none h hp)]; exact h) (fun a n h z => z.elim n fun z => h (z ▸ hp)) fun u h => by rw [upd_ne (ne_of_none h hp)]; exact h⟩
  nd := S.nd
end
end Od

set_option Elab.async false
set_option linter.all false
set_option maxRecDepth 100000
set_option maxHeartbeats 4000000
namespace Od
open PySem L2

/-! ### the greatest readings -/
def wE (X : Cx) (ex : Expr) : TE := fun σ H Q => ∀ (pins : List (Addr × Obj)) (s : Shared), Inv X pins σ H s → wpAny (model X.prog X.w) X.A (eval ex X.env) (EP X pins σ Q) X.xe s
def wT (X : Cx) (ex : Expr) : TT := fun σ H Q => ∀ (pins : List (Addr × Obj)) (s : Shared), Inv X pins σ H s → wpAny (model X.prog X.w) X.A (isTrue ex X.env (eval ex X.env)) (TP X pins σ Q) X.xe s
def wW (X : Cx) (ex : Expr) : TT := fun σ H Q => ∀ (whole : Sem Value) (pins : List (Addr × Obj)) (s : Shared), Inv X pins σ H s → wpAny (model X.prog X.w) X.A (isTrue ex X.env whole) (TP X pins σ Q) X.xe s
def wA (X : Cx) (es : List Expr) : TA := fun σ H Q => ∀ (pos : Pos) (pins : List (Addr × Obj)) (s : Shared), Inv X pins σ H s → wpAny (model X.prog X.w) X.A (spliced (backTo pos (starEach es X.env))) (AP X pins σ Q) X.xe s
/-- (a structure, so that nothing unfolds it) -/
structure WSs (X : Cx) (st : List Stmt) (D : Ends) (σ : L2.St) (H : Hp) : Prop where
  h : ∀ (pins : List (Addr × Obj)) (s : Shared), Inv X pins σ H s → wpAny (model X.prog X.w) X.A (execs st X.env) (SP X pins D) X.xe s
def wSs (X : Cx) (st : List Stmt) : TS := fun D σ H => WSs X st D σ H
section
variable {X : Cx} {ex : Expr} {es : List Expr} {st : List Stmt} {σ : L2.St} {H : Hp}
theorem pe_w : PE X ex (wE X ex) := ⟨fun pins s σ H Q I h => h pins s I⟩
theorem pt_w : PT X ex (wT X ex) := ⟨fun pins s σ H Q I h => h pins s I⟩
theorem pw_w : PW X ex (wW X ex) := ⟨fun wh pins s σ H Q I h => h wh pins s I⟩
theorem pa_w : PA X es (wA X es) := ⟨fun pos pins s σ H Q I h => h pos pins s I⟩
theorem pss_w : PSs X st (wSs X st) := ⟨fun pins s σ H Q I h => h.h pins s I⟩
theorem we_of {t : TE} (h : PE X ex t) {Q : VK} (q : t σ H Q) : wE X ex σ H Q := fun pins s I => h.run pins s σ H Q I q
theorem wt_of {t : TT} (h : PT X ex t) {Q : Bool → Hp → Prop} (q : t σ H Q) : wT X ex σ H Q := fun pins s I => h.run pins s σ H Q I q
theorem ww_of {t : TT} (h : PW X ex t) {Q : Bool → Hp → Prop} (q : t σ H Q) : wW X ex σ H Q := fun wh pins s I => h.run wh pins s σ H Q I q
theorem wa_of {t : TA} (h : PA X es t) {Q : List V → Hp → Prop} (q : t σ H Q) : wA X es σ H Q := fun pos pins s I => h.run pos pins s σ H Q I q
theorem wss_of {t : TS} (h : PSs X st t) {D : Ends} (q : t D σ H) : wSs X st D σ H := ⟨fun pins s I => h.run pins s σ H D I q⟩
theorem wt_ww {Q : Bool → Hp → Prop} (q : wW X ex σ H Q) : wT X ex σ H Q := fun pins s I => q _ pins s I
end

/-! ### what an expression gives -/
structure EE (X : Cx) (M : Addr → Prop) (e : DE) (cs : Cs) (ex : Expr) (d : D) (cs' : Cs) : Prop where
  dm : dom cs' = dom cs
  k : ∀ (σ : L2.St) (H : Hp) (Q : VK), Sit X.K X.mg M σ H e cs → (∀ v H', Sit X.K X.mg M σ H' e cs' → Ext (dom cs) H H' → R X.K X.mg M H' v d → Q v H') → wE X ex σ H Q
structure ET (X : Cx) (M : Addr → Prop) (e : DE) (cs : Cs) (ex : Expr) (b : Bool) (cs' : Cs) : Prop where
  dm : dom cs' = dom cs
  k : ∀ (σ : L2.St) (H : Hp) (Q : Bool → Hp → Prop), Sit X.K X.mg M σ H e cs → (∀ H', Sit X.K X.mg M σ H' e cs' → Ext (dom cs) H H' → Q b H') → wT X ex σ H Q
structure EW (X : Cx) (M : Addr → Prop) (e : DE) (cs : Cs) (ex : Expr) (b : Bool) (cs' : Cs) : Prop where
  dm : dom cs' = dom cs
  k : ∀ (σ : L2.St) (H : Hp) (Q : Bool → Hp → Prop), Sit X.K X.mg M σ H e cs → (∀ H', Sit X.K X.mg M σ H' e cs' → Ext (dom cs) H H' → Q b H') → wW X ex σ H Q
structure EA (X : Cx) (M : Addr → Prop) (e : DE) (cs : Cs) (es : List Expr) (ds : List D) (cs' : Cs) : Prop where
  dm : dom cs' = dom cs
  k : ∀ (σ : L2.St) (H : Hp) (Q : List V → Hp → Prop), Sit X.K X.mg M σ H e cs → (∀ vs H', Sit X.K X.mg M σ H' e cs' → Ext (dom cs) H H' → Rs X.K X.mg M H' vs ds → Q vs H') → wA X es σ H Q

/-- what an operation on values gives, all that stands kept -/
abbrev Gives (X : Cx) (M : Addr → Prop) (H : Hp) (d : D) (Q : VK) : Prop := ∀ v H', Ext [] H H' → R X.K X.mg M H' v d → Q v H'
def BinD (X : Cx) (op : Operator) (x y z : D) : Prop := ∃ r, OpR X (binaryOp op) r ∧ ∀ (M : Addr → Prop) (H : Hp) (v u : V) (Q : VK), (∀ a, M a → H a ≠ none) → R X.K X.mg M H v x → R X.K X.mg M H u y → Gives X M H z Q → r v u H Q
def CmpD (X : Cx) (op : CmpOp) (x y : D) (b : Bool) : Prop := ∃ r, OpR X (compareOp op) r ∧ ∀ (M : Addr → Prop) (H : Hp) (v u : V) (Q : VK), (∀ a, M a → H a ≠ none) → R X.K X.mg M H v x → R X.K X.mg M H u y → Gives X M H (.bl b) Q → r v u H Q
def IxD (X : Cx) (x y z : D) : Prop := ∃ r, IxR X r ∧ ∀ (M : Addr → Prop) (H : Hp) (v u : V) (Q : VK), (∀ a, M a → H a ≠ none) → R X.K X.mg M H v x → R X.K X.mg M H u y → Gives X M H z Q → r v u H Q
def SlD (X : Cx) (x : D) (lo hi : Option Int) (z : D) : Prop := ∃ r, SlR X r ∧ ∀ (M : Addr → Prop) (H : Hp) (v : V) (Q : VK), (∀ a, M a → H a ≠ none) → R X.K X.mg M H v x → Gives X M H z Q → r v lo hi H Q
def CalD (X : Cx) (f : Value) (xs : List D) (z : D) : Prop := ∃ r, CallR X f r ∧ ∀ (M : Addr → Prop) (H : Hp) (vs : List V) (Q : VK), (∀ a, M a → H a ≠ none) → Rs X.K X.mg M H vs xs → Gives X M H z Q → r vs H Q
def UnD (X : Cx) (op : UnaryOp) (x z : D) : Prop := ∃ r, UnR X (unaryOp op) r ∧ ∀ (M : Addr → Prop) (H : Hp) (v : V) (Q : VK), (∀ a, M a → H a ≠ none) → R X.K X.mg M H v x → Gives X M H z Q → r v H Q
/-- a method of a text -/
def StrD (X : Cx) (id : String) (x : Str) (xs : List D) (z : D) : Prop := ∃ r, MtR X id r ∧ ∀ (M : Addr → Prop) (H : Hp) (vs : List V) (Q : VK), (∀ a, M a → H a ≠ none) → Rs X.K X.mg M H vs xs → Gives X M H z Q → r (.str x) vs H Q

section
variable {X : Cx} {M : Addr → Prop} {e : DE} {cs cs1 cs2 cs3 : Cs} {pos p pos' apos : Pos} {a b c ex : Expr} {es : List Expr} {d x y z : D} {ds : List D} {n : Str}

/-- pure continuation: nothing that may change has changed -/
theorem fin {σ : L2.St} {H H1 : Hp} {Q : VK} (S : Sit X.K X.mg M σ H e cs1) (xt : Ext (dom cs) H1 H) (k : ∀ v H', Sit X.K X.mg M σ H' e cs1 → Ext (dom cs) H1 H' → R X.K X.mg M H' v d → Q v H') : Gives X M H d Q := fun v H' x r => k v H' (S.ex x) (xt.trans (x.mono (by simp))) r

theorem e_name (i : Nat) (hd : e[i]? = some (some d)) (hN : X.N[i]? = some n := by rfl) (hv : Vis X.env.scope n := by first | exact Or.inl rfl | exact Or.inr (Or.inl rfl) | exact Or.inr (Or.inr rfl))
    (h1 : (n == ("__debug__" : Str)) = false := by decide) (h2 : (n == ("__classdict__" : Str)) = false := by decide) : EE X M e cs (.Name n pos) d cs where
  dm := rfl
  k := fun σ H Q S k => by
    obtain ⟨v, hs, r⟩ := S.env i d hd
    exact we_of (pe_var hN hv h1 h2) ⟨v, hs, k v H S (Ext.refl _ _) r⟩
theorem e_int {i : Int} {j} : EE X M e cs (.Constant (.int i) j pos) (.int i) cs := ⟨rfl, fun σ H Q S k => we_of pe_int (k _ H S (Ext.refl _ _) (by simp [R]))⟩
theorem e_bl {b : Bool} {j} : EE X M e cs (.Constant (.bool b) j pos) (.bl b) cs := ⟨rfl, fun σ H Q S k => we_of pe_bl (k _ H S (Ext.refl _ _) (by simp [R]))⟩
theorem e_non {j} : EE X M e cs (.Constant .none j pos) .non cs := ⟨rfl, fun σ H Q S k => we_of pe_non (k _ H S (Ext.refl _ _) (by simp [R]))⟩
theorem e_str {s : Str} {j} : EE X M e cs (.Constant (.str s) j pos) (.str s) cs := ⟨rfl, fun σ H Q S k => we_of pe_str (k _ H S (Ext.refl _ _) (by simp [R]))⟩
/-- a name of the module: a text, an int -/
theorem e_gstr {s : Str} {u : Value} (hm : X.mg n = some u) (hr : RelV (.str s) u) (hg : Gl X n := by rfl) (hd : (n == ("__debug__" : Str)) = false := by decide) : EE X M e cs (.Name n pos) (.str s) cs :=
  ⟨rfl, fun σ H Q S k => we_of (pe_glob hg hm hr hd) (k _ H S (Ext.refl _ _) (by simp [R]))⟩
theorem e_gint {s : Int} {u : Value} (hm : X.mg n = some u) (hr : RelV (.int s) u) (hg : Gl X n := by rfl) (hd : (n == ("__debug__" : Str)) = false := by decide) : EE X M e cs (.Name n pos) (.int s) cs :=
  ⟨rfl, fun σ H Q S k => we_of (pe_glob hg hm hr hd) (k _ H S (Ext.refl _ _) (by simp [R]))⟩
/-- a class of one's own as a value -/
theorem e_gref {C : Addr} (hm : X.mg n = some (.ref C)) (hg : Gl X n := by rfl) (hd : (n == ("__debug__" : Str)) = false := by decide) : EE X M e cs (.Name n pos) (.ref C) cs :=
  ⟨rfl, fun σ H Q S k => we_of (pe_glob (v := .ref C) hg hm rfl hd) (k _ H S (Ext.refl _ _) (by simp [R]))⟩
/-- a built-in type as a value -/
theorem e_gty {t : String} (hm : X.mg n = none) (hv : bootBuiltins n = some (.type t) := by decide +kernel) (hg : Gl X n := by rfl) (hn : n ≠ "__name__" := by decide) (hd : (n == ("__debug__" : Str)) = false := by decide) : EE X M e cs (.Name n pos) (.ty t) cs :=
  ⟨rfl, fun σ H Q S k => we_of (pe_bltn (v := .ty t) hg hm hv rfl hn hd) (k _ H S (Ext.refl _ _) (by simp [R]))⟩

theorem e_bin {op : Operator} (ha : EE X M e cs a x cs1) (hb : EE X M e cs1 b y cs2) (c : BinD X op x y z) : EE X M e cs (.BinOp a op b pos) z cs2 where
  dm := hb.dm.trans ha.dm
  k := fun σ H Q S k => by
    obtain ⟨r, ho, hk⟩ := c
    refine we_of (pe_op ho pe_w pe_w) (ha.k σ H _ S fun v H1 S1 x1 r1 => hb.k σ H1 _ S1 fun u H2 S2 x2 r2 => hk M H2 v u Q S2.mt (S1.r x2 r1) r2 (fin S2 (x1.trans ?_) k))
    rw [← ha.dm]; exact x2
theorem e_un {op : UnaryOp} (ha : EE X M e cs a x cs1) (c : UnD X op x z) : EE X M e cs (.UnaryOp op a pos) z cs1 where
  dm := ha.dm
  k := fun σ H Q S k => by
    obtain ⟨r, ho, hk⟩ := c
    exact we_of (pe_un ho pe_w) (ha.k σ H _ S fun v H1 S1 x1 r1 => hk M H1 v Q S1.mt r1 (fin S1 x1 k))
theorem e_cmp {op : CmpOp} {k0 : Bool} (ha : EE X M e cs a x cs1) (hb : EE X M e cs1 b y cs2) (c : CmpD X op x y k0) (hm : behindInMarks op b = false := by first | exact nomark _ | rfl) : EE X M e cs (.Compare a [op] [b] pos) (.bl k0) cs2 where
  dm := hb.dm.trans ha.dm
  k := fun σ H Q S k => by
    obtain ⟨r, ho, hk⟩ := c
    refine we_of (pe_cmpR ho pe_w pe_w hm) (ha.k σ H _ S fun v H1 S1 x1 r1 => hb.k σ H1 _ S1 fun u H2 S2 x2 r2 => hk M H2 v u Q S2.mt (S1.r x2 r1) r2 (fin S2 (x1.trans ?_) k))
    rw [← ha.dm]; exact x2
theorem t_cmp {op : CmpOp} {k0 : Bool} (ha : EE X M e cs a x cs1) (hb : EE X M e cs1 b y cs2) (c : CmpD X op x y k0) (hm : behindInMarks op b = false := by first | exact nomark _ | rfl) : ET X M e cs (.Compare a [op] [b] pos) k0 cs2 where
  dm := hb.dm.trans ha.dm
  k := fun σ H Q S k => by
    obtain ⟨r, ho, hk⟩ := c
    refine wt_of (pt_cmpR ho pe_w pe_w hm) (ha.k σ H _ S fun v H1 S1 x1 r1 => hb.k σ H1 _ S1 fun u H2 S2 x2 r2 => hk M H2 v u _ S2.mt (S1.r x2 r1) r2 fun w H3 x3 r3 => ⟨k0, by simpa [R] using r3, k H3 (S2.ex x3) (x1.trans ?_)⟩)
    rw [← ha.dm]; exact x2.trans (x3.mono (by simp))
/-- a < b < c, three plain values -/
theorem e_chain {op op' : CmpOp} {k0 k1 : Bool} (ha : EE X M e cs a x cs1) (hb : EE X M e cs1 b y cs2) (hc : EE X M e cs2 c z cs2) (q : CmpD X op x y k0) (q' : CmpD X op' y z k1) (hm : lastMarks [op, op'] [b, c] = false := by rfl) : EE X M e cs (.Compare a [op, op'] [b, c] pos) (.bl (k0 && k1)) cs2 where
  dm := hb.dm.trans ha.dm
  k := fun σ H Q S k => by
    obtain ⟨r, ho, hk⟩ := q
    obtain ⟨r', ho', hk'⟩ := q'
    refine we_of (pe_chain ho ho' pe_w pe_w pe_w hm) (ha.k σ H _ S fun v H1 S1 x1 r1 => hb.k σ H1 _ S1 fun u H2 S2 x2 r2 => hk M H2 v u _ S2.mt (S1.r x2 r1) r2 fun w H3 x3 r3 => ⟨k0, by simpa [R] using r3, ?_⟩)
    have x13 : Ext (dom cs) H H3 := (x1.trans (by rw [← ha.dm]; exact x2)).trans (x3.mono (by simp))
    cases k0 with
    | true =>
      rw [if_pos rfl]
      refine hc.k σ H3 _ (S2.ex x3) fun w' H4 S4 x4 r4 => hk' M H4 u w' _ S4.mt ?_ r4 (fin S4 (x13.trans ?_) ?_)
      · exact S4.r (Ext.refl _ _) ((S2.ex x3).r x4 ((S2.ex x3).r (Ext.refl _ _) (R.ext (fun a o _ h => x3 a o h (by simp)) (fun _ n _ => n) _ r2)))
      · rw [← hb.dm.trans ha.dm]; exact x4
      · simpa using k
    | false =>
      rw [if_neg (by simp)]
      exact k _ H3 (S2.ex x3) x13 (by simp [R])
theorem t_chain {op op' : CmpOp} {k0 k1 : Bool} (ha : EE X M e cs a x cs1) (hb : EE X M e cs1 b y cs2) (hc : EE X M e cs2 c z cs2) (q : CmpD X op x y k0) (q' : CmpD X op' y z k1) (hm : lastMarks [op, op'] [b, c] = false := by rfl) : ET X M e cs (.Compare a [op, op'] [b, c] pos) (k0 && k1) cs2 where
  dm := hb.dm.trans ha.dm
  k := fun σ H Q S k => by
    obtain ⟨r, ho, hk⟩ := q
    obtain ⟨r', ho', hk'⟩ := q'
    refine wt_of (pt_chain ho ho' pe_w pe_w pe_w hm) (ha.k σ H _ S fun v H1 S1 x1 r1 => hb.k σ H1 _ S1 fun u H2 S2 x2 r2 => hk M H2 v u _ S2.mt (S1.r x2 r1) r2 fun w H3 x3 r3 => ⟨k0, by simpa [R] using r3, ?_⟩)
    have x13 : Ext (dom cs) H H3 := (x1.trans (by rw [← ha.dm]; exact x2)).trans (x3.mono (by simp))
    cases k0 with
    | true =>
      rw [if_pos rfl]
      refine hc.k σ H3 _ (S2.ex x3) fun w' H4 S4 x4 r4 => hk' M H4 u w' _ S4.mt ?_ r4 fun w5 H5 x5 r5 => ⟨k1, by simpa [R] using r5, ?_⟩
      · exact S4.r (Ext.refl _ _) ((S2.ex x3).r x4 ((S2.ex x3).r (Ext.refl _ _) (R.ext (fun a o _ h => x3 a o h (by simp)) (fun _ n _ => n) _ r2)))
      · have := k H5 (S4.ex x5) (x13.trans ((by rw [← hb.dm.trans ha.dm]; exact x4 : Ext (dom cs) H3 H4).trans (x5.mono (by simp))))
        simpa using this
    | false =>
      rw [if_neg (by simp)]
      exact ⟨false, rfl, k H3 (S2.ex x3) x13⟩

def isNonD : D → Bool
  | .non => true
  | _ => false
theorem R.isNon {K : PySem.W.Frag} {mg : Str → Option Value} {H : Hp} : ∀ {x : D} {v : V}, R K mg M H v x → decide (v = V.non) = isNonD x
  | .non, v, h => by simp [R] at h; simp [h, isNonD]
  | .bl _, v, h => by simp [R] at h; simp [h, isNonD]
  | .int _, v, h => by simp [R] at h; simp [h, isNonD]
  | .str _, v, h => by simp [R] at h; simp [h, isNonD]
  | .ref _, v, h => by simp [R] at h; simp [h, isNonD]
  | .ty _, v, h => by simp [R] at h; simp [h, isNonD]
  | .lst _, v, h => by unfold R at h; obtain ⟨a, xs, rfl, _⟩ := h; simp [isNonD]
  | .tup _, v, h => by unfold R at h; obtain ⟨a, xs, rfl, _⟩ := h; simp [isNonD]
  | .obj _ _ _, v, h => by unfold R at h; obtain ⟨a, C, dx, xs, rfl, _⟩ := h; simp [isNonD]
  | .dic _ _, v, h => by unfold R at h; obtain ⟨a, xs, rfl, _⟩ := h; simp [isNonD]
  | .scr _, v, h => by unfold R at h; obtain ⟨a, rfl, _⟩ := h; simp [isNonD]
  | .lam _, v, h => by unfold R at h; obtain ⟨f, c', dV, rfl, _⟩ := h; simp [isNonD]
  | .exc _ _ _ _, v, h => by unfold R at h; obtain ⟨xs, rfl, _⟩ := h; simp [isNonD]
theorem e_isN {j} (ha : EE X M e cs a x cs1) : EE X M e cs (.Compare a [.Is] [.Constant .none j pos'] pos) (.bl (isNonD x)) cs1 where
  dm := ha.dm
  k := fun σ H Q S k => we_of (pe_cmp (pc_isN pe_w)) (ha.k σ H _ S fun v H1 S1 x1 r1 => k _ H1 S1 x1 (by simp [R, r1.isNon]))
theorem e_notN {j} (ha : EE X M e cs a x cs1) : EE X M e cs (.Compare a [.IsNot] [.Constant .none j pos'] pos) (.bl (!isNonD x)) cs1 where
  dm := ha.dm
  k := fun σ H Q S k => we_of (pe_cmp (pc_notN pe_w)) (ha.k σ H _ S fun v H1 S1 x1 r1 => k _ H1 S1 x1 (by simp [R, r1.isNon]))
theorem t_isN {j} (ha : EE X M e cs a x cs1) : ET X M e cs (.Compare a [.Is] [.Constant .none j pos'] pos) (isNonD x) cs1 where
  dm := ha.dm
  k := fun σ H Q S k => wt_of (pt_cmp (pc_isN pe_w)) (ha.k σ H _ S fun v H1 S1 x1 r1 => ⟨_, rfl, by rw [r1.isNon]; exact k H1 S1 x1⟩)
theorem t_notN {j} (ha : EE X M e cs a x cs1) : ET X M e cs (.Compare a [.IsNot] [.Constant .none j pos'] pos) (!isNonD x) cs1 where
  dm := ha.dm
  k := fun σ H Q S k => wt_of (pt_cmp (pc_notN pe_w)) (ha.k σ H _ S fun v H1 S1 x1 r1 => ⟨_, rfl, by rw [r1.isNon]; exact k H1 S1 x1⟩)

/-! ### and, or, not, if -/
theorem t_val {k0 : Bool} (ha : EE X M e cs a (.bl k0) cs1) (he : ∀ whole, isTrue a X.env whole = (do let v ← whole; standAt a.pos; holding [v] (truthy v)) := by intro _; rfl) : ET X M e cs a k0 cs1 where
  dm := ha.dm
  k := fun σ H Q S k => wt_of (pt_val pe_w he) (ha.k σ H _ S fun v H1 S1 x1 r1 => ⟨k0, by simpa [R] using r1, k H1 S1 x1⟩)
theorem t_not {k0 : Bool} (ha : ET X M e cs a k0 cs1) : ET X M e cs (.UnaryOp .Not a pos) (!k0) cs1 where
  dm := ha.dm
  k := fun σ H Q S k => wt_of (pt_not pt_w) (ha.k σ H _ S k)
theorem t_and1 {k0 : Bool} (ha : ET X M e cs a k0 cs1) : EW X M e cs (.BoolOp .And [a] pos) k0 cs1 where
  dm := ha.dm
  k := fun σ H Q S k => ww_of (pw_and1 pt_w) (ha.k σ H _ S k)
theorem t_or1 {k0 : Bool} (ha : ET X M e cs a k0 cs1) : EW X M e cs (.BoolOp .Or [a] pos) k0 cs1 where
  dm := ha.dm
  k := fun σ H Q S k => ww_of (pw_or1 pt_w) (ha.k σ H _ S k)
theorem t_andS {p0 q0 : Bool} (ha : ET X M e cs a p0 cs1) (hd : dom cs2 = dom cs1) (hb : p0 = true → EW X M e cs1 (.BoolOp .And (b :: es) pos) q0 cs2) (hc : p0 = false → cs2 = cs1) : EW X M e cs (.BoolOp .And (a :: b :: es) pos) (p0 && q0) cs2 where
  dm := hd.trans ha.dm
  k := fun σ H Q S k => ww_of (pw_and pt_w pw_w) (ha.k σ H _ S fun H1 S1 x1 => by
    cases p0 with
    | true =>
      rw [if_pos rfl]
      refine (hb rfl).k σ H1 _ S1 fun H2 S2 x2 => ?_
      rw [ha.dm] at x2
      simpa using k H2 S2 (x1.trans x2)
    | false =>
      rw [if_neg (by simp)]
      obtain rfl := hc rfl
      simpa using k H1 S1 x1)
theorem t_and {p0 q0 : Bool} (ha : ET X M e cs a p0 cs1) (hb : p0 = true → EW X M e cs1 (.BoolOp .And (b :: es) pos) q0 cs1) : EW X M e cs (.BoolOp .And (a :: b :: es) pos) (p0 && q0) cs1 := t_andS ha rfl hb fun _ => rfl
theorem t_orS {p0 q0 : Bool} (ha : ET X M e cs a p0 cs1) (hd : dom cs2 = dom cs1) (hb : p0 = false → EW X M e cs1 (.BoolOp .Or (b :: es) pos) q0 cs2) (hc : p0 = true → cs2 = cs1) : EW X M e cs (.BoolOp .Or (a :: b :: es) pos) (p0 || q0) cs2 where
  dm := hd.trans ha.dm
  k := fun σ H Q S k => ww_of (pw_or pt_w pw_w) (ha.k σ H _ S fun H1 S1 x1 => by
    cases p0 with
    | false =>
      rw [if_neg (by simp)]
      refine (hb rfl).k σ H1 _ S1 fun H2 S2 x2 => ?_
      rw [ha.dm] at x2
      simpa using k H2 S2 (x1.trans x2)
    | true =>
      rw [if_pos rfl]
      obtain rfl := hc rfl
      simpa using k H1 S1 x1)
theorem t_or {p0 q0 : Bool} (ha : ET X M e cs a p0 cs1) (hb : p0 = false → EW X M e cs1 (.BoolOp .Or (b :: es) pos) q0 cs1) : EW X M e cs (.BoolOp .Or (a :: b :: es) pos) (p0 || q0) cs1 := t_orS ha rfl hb fun _ => rfl
theorem t_ew {k0 : Bool} (h : EW X M e cs a k0 cs1) : ET X M e cs a k0 cs1 := ⟨h.dm, fun σ H Q S k => wt_ww (h.k σ H Q S k)⟩
/-- as values -/
theorem e_one {op : BoolOp} (ha : EE X M e cs a x cs1) : EE X M e cs (.BoolOp op [a] pos) x cs1 where
  dm := ha.dm
  k := fun σ H Q S k => we_of (pe_one pe_w) (ha.k σ H _ S k)
theorem e_andS {p0 q0 : Bool} (ha : EE X M e cs a (.bl p0) cs1) (hd : dom cs2 = dom cs1) (hb : p0 = true → EE X M e cs1 (.BoolOp .And (b :: es) pos) (.bl q0) cs2) (hc : p0 = false → cs2 = cs1) : EE X M e cs (.BoolOp .And (a :: b :: es) pos) (.bl (p0 && q0)) cs2 where
  dm := hd.trans ha.dm
  k := fun σ H Q S k => we_of (pe_and pe_w pe_w) (ha.k σ H _ S fun v H1 S1 x1 r1 => ⟨p0, by simpa [R] using r1, by
    cases p0 with
    | true =>
      rw [if_pos rfl]
      refine (hb rfl).k σ H1 _ S1 fun w H2 S2 x2 r2 => ?_
      rw [ha.dm] at x2
      exact k w H2 S2 (x1.trans x2) (by simpa using r2)
    | false =>
      rw [if_neg (by simp)]
      obtain rfl := hc rfl
      exact k _ H1 S1 x1 (by simp [R])⟩)
theorem e_and {p0 q0 : Bool} (ha : EE X M e cs a (.bl p0) cs1) (hb : p0 = true → EE X M e cs1 (.BoolOp .And (b :: es) pos) (.bl q0) cs1) : EE X M e cs (.BoolOp .And (a :: b :: es) pos) (.bl (p0 && q0)) cs1 := e_andS ha rfl hb fun _ => rfl
theorem e_orS {p0 q0 : Bool} (ha : EE X M e cs a (.bl p0) cs1) (hd : dom cs2 = dom cs1) (hb : p0 = false → EE X M e cs1 (.BoolOp .Or (b :: es) pos) (.bl q0) cs2) (hc : p0 = true → cs2 = cs1) : EE X M e cs (.BoolOp .Or (a :: b :: es) pos) (.bl (p0 || q0)) cs2 where
  dm := hd.trans ha.dm
  k := fun σ H Q S k => we_of (pe_or pe_w pe_w) (ha.k σ H _ S fun v H1 S1 x1 r1 => ⟨p0, by simpa [R] using r1, by
    cases p0 with
    | false =>
      rw [if_neg (by simp)]
      refine (hb rfl).k σ H1 _ S1 fun w H2 S2 x2 r2 => ?_
      rw [ha.dm] at x2
      exact k w H2 S2 (x1.trans x2) (by simpa using r2)
    | true =>
      rw [if_pos rfl]
      obtain rfl := hc rfl
      exact k _ H1 S1 x1 (by simp [R])⟩)
theorem e_or {p0 q0 : Bool} (ha : EE X M e cs a (.bl p0) cs1) (hb : p0 = false → EE X M e cs1 (.BoolOp .Or (b :: es) pos) (.bl q0) cs1) : EE X M e cs (.BoolOp .Or (a :: b :: es) pos) (.bl (p0 || q0)) cs1 := e_orS ha rfl hb fun _ => rfl
theorem e_not {p0 : Bool} (ha : EE X M e cs a (.bl p0) cs1) : EE X M e cs (.UnaryOp .Not a pos) (.bl (!p0)) cs1 where
  dm := ha.dm
  k := fun σ H Q S k => we_of (pe_not pe_w) (ha.k σ H _ S fun v H1 S1 x1 r1 => ⟨p0, by simpa [R] using r1, k _ H1 S1 x1 (by simp [R])⟩)
/-- a if c else b -/
theorem e_if {p0 : Bool} (hc : ET X M e cs c p0 cs1) (hd : dom cs2 = dom cs1) (ha : p0 = true → EE X M e cs1 a x cs2) (hb : p0 = false → EE X M e cs1 b x cs2) : EE X M e cs (.IfExp c a b pos) x cs2 where
  dm := hd.trans hc.dm
  k := fun σ H Q S k => we_of (pe_ifExp pt_w pe_w pe_w) (hc.k σ H _ S fun H1 S1 x1 => by
    cases p0 with
    | true =>
      rw [if_pos rfl]
      refine (ha rfl).k σ H1 _ S1 fun w H2 S2 x2 r2 => ?_
      rw [hc.dm] at x2
      exact k w H2 S2 (x1.trans x2) r2
    | false =>
      rw [if_neg (by simp)]
      refine (hb rfl).k σ H1 _ S1 fun w H2 S2 x2 r2 => ?_
      rw [hc.dm] at x2
      exact k w H2 S2 (x1.trans x2) r2)
/-- both sides told apart -/
theorem e_ite {p0 : Bool} (hc : ET X M e cs c p0 cs1) (ha : p0 = true → EE X M e cs1 a x cs1) (hb : p0 = false → EE X M e cs1 b y cs1) : EE X M e cs (.IfExp c a b pos) (if p0 then x else y) cs1 :=
  e_if hc rfl (fun h => by rw [if_pos h]; exact ha h) fun h => by rw [if_neg (by simp [h])]; exact hb h
/-- another name for what comes out -/
theorem EE.eq (h : EE X M e cs a x cs1) (q : x = y) : EE X M e cs a y cs1 := q ▸ h
theorem ET.eq {p0 q0 : Bool} (h : ET X M e cs a p0 cs1) (q : p0 = q0) : ET X M e cs a q0 cs1 := q ▸ h

/-! ### argument lists, displays -/
theorem a_nil : EA X M e cs [] [] cs := ⟨rfl, fun σ H Q S k => wa_of pa_nil (k _ H S (Ext.refl _ _) Rs.nil)⟩
theorem a_cons (ha : EE X M e cs a x cs1) (hr : EA X M e cs1 es ds cs2) (hs : starEach (a :: es) X.env = (false, eval a X.env) :: starEach es X.env := by rfl) : EA X M e cs (a :: es) (x :: ds) cs2 where
  dm := hr.dm.trans ha.dm
  k := fun σ H Q S k => wa_of (pa_cons pe_w pa_w hs) (ha.k σ H _ S fun v H1 S1 x1 r1 => hr.k σ H1 _ S1 fun vs H2 S2 x2 r2 => k _ H2 S2 (x1.trans (by rw [← ha.dm]; exact x2)) (.cons (S1.r x2 r1) r2))
theorem new_m {H : Hp} {p : Addr} (S : ∀ a, M a → H a ≠ none) (hp : H p = none) : ¬ M p := fun m => S p m hp
theorem r_newl {H : Hp} {p : Addr} {vs : List V} (S : ∀ a, M a → H a ≠ none) (hp : H p = none) (r : Rs X.K X.mg M H vs ds) : R X.K X.mg M (upd H p (.lst vs)) (.ref p) (.lst ds) := by
  unfold R
  exact ⟨p, vs, rfl, new_m S hp, upd_same, Rs.ext (fun a o _ h => by rw [upd_ne (ne_of_none h hp)]; exact h) (fun _ n _ => n) _ r⟩
theorem r_newt {H : Hp} {p : Addr} {vs : List V} (S : ∀ a, M a → H a ≠ none) (hp : H p = none) (r : Rs X.K X.mg M H vs ds) : R X.K X.mg M (upd H p (.tup vs)) (.ref p) (.tup ds) := by
  unfold R
  exact ⟨p, vs, rfl, .inl ⟨new_m S hp, upd_same⟩, Rs.ext (fun a o _ h => by rw [upd_ne (ne_of_none h hp)]; exact h) (fun _ n _ => n) _ r⟩
theorem e_tup {x1} (ha : EA X M e cs es ds cs1) (hl : ds.length ≤ 100000 := by first | decide | simp) : EE X M e cs (.Tuple es x1 pos) (.tup ds) cs1 where
  dm := ha.dm
  k := fun σ H Q S k => we_of (pe_tup pa_w) (ha.k σ H _ S fun vs H1 S1 x1 r1 => ⟨by rw [r1.length]; exact Nat.le_trans hl (by decide), fun p hp => fin S1 x1 k _ _ (Ext.new hp) (r_newt S1.mt hp r1)⟩)
theorem e_lst (ha : EA X M e cs es ds cs1) (hl : ds.length ≤ 100000 := by first | decide | simp) : EE X M e cs (.List es pos) (.lst ds) cs1 where
  dm := ha.dm
  k := fun σ H Q S k => we_of (pe_lst pa_w) (ha.k σ H _ S fun vs H1 S1 x1 r1 => ⟨by rw [r1.length]; exact Nat.le_trans hl (by decide), fun p hp => fin S1 x1 k _ _ (Ext.new hp) (r_newl S1.mt hp r1)⟩)

/-! ### subscripts, slices -/
theorem e_ix (ha : EE X M e cs a x cs1) (hb : EE X M e cs1 b y cs2) (q : IxD X x y z) (hs : PlainIx b := by intro _ _; rfl) : EE X M e cs (.Subscript a b pos) z cs2 where
  dm := hb.dm.trans ha.dm
  k := fun σ H Q S k => by
    obtain ⟨r, ho, hk⟩ := q
    refine we_of (pe_ix ho pe_w pe_w hs) (ha.k σ H _ S fun v H1 S1 x1 r1 => hb.k σ H1 _ S1 fun u H2 S2 x2 r2 => hk M H2 v u Q S2.mt (S1.r x2 r1) r2 (fin S2 (x1.trans ?_) k))
    rw [← ha.dm]; exact x2
/-- an end of a slice -/
structure EO (X : Cx) (M : Addr → Prop) (e : DE) (cs : Cs) (o : Option Expr) (i : Option Int) (cs' : Cs) : Prop where
  dm : dom cs' = dom cs
  k : ∃ t, PO X o t ∧ ∀ (σ : L2.St) (H : Hp) (Q : Option Int → Hp → Prop), Sit X.K X.mg M σ H e cs → (∀ H', Sit X.K X.mg M σ H' e cs' → Ext (dom cs) H H' → Q i H') → t σ H Q
theorem o_none : EO X M e cs none none cs := ⟨rfl, _, po_none, fun σ H Q S k => k H S (Ext.refl _ _)⟩
theorem o_some {i : Int} (ha : EE X M e cs a (.int i) cs1) : EO X M e cs (some a) (some i) cs1 := ⟨ha.dm, _, po_some pe_w, fun σ H Q S k => ha.k σ H _ S fun v H1 S1 x1 r1 => ⟨i, by simpa [R] using r1, k H1 S1 x1⟩⟩
theorem e_slice {lo hi : Option Expr} {i j : Option Int} {p2 : Pos} (ha : EE X M e cs a x cs1) (hl : EO X M e cs1 lo i cs2) (hh : EO X M e cs2 hi j cs3) (q : SlD X x i j z) : EE X M e cs (.Subscript a (.Slice lo hi none p2) pos) z cs3 where
  dm := hh.dm.trans (hl.dm.trans ha.dm)
  k := fun σ H Q S k => by
    obtain ⟨r, ho, hk⟩ := q
    obtain ⟨d1, tl, pl, kl⟩ := hl
    obtain ⟨d2, th, ph, kh⟩ := hh
    refine we_of (pe_slice ho pe_w pl ph) (ha.k σ H _ S fun v H1 S1 x1 r1 => kl σ H1 _ S1 fun H2 S2 x2 => kh σ H2 _ S2 fun H3 S3 x3 => hk M H3 v Q S3.mt (S2.r x3 (S1.r x2 r1)) (fin S3 ?_ k))
    exact (x1.trans (by rw [← ha.dm]; exact x2)).trans (by rw [← d1.trans ha.dm]; exact x3)
end
end Od

set_option Elab.async false
set_option linter.all false
set_option maxRecDepth 100000
set_option maxHeartbeats 4000000
namespace Od
open PySem L2

/-! ### promises -/
/-- called with args, the things cs as they are: gives res, the things become cs' -/
def fnSp (K : PySem.W.Frag) (mg : Str → Option Value) {ι : Type} (pre : ι → Prop) (args : ι → List D) (cs : ι → Cs) (res : ι → D) (cs' : ι → Cs) : Sp := fun vs H Q _ =>
  ∃ (M : Addr → Prop) (i : ι), pre i ∧ (∀ a, M a → H a ≠ none) ∧ Rs K mg M H vs (args i) ∧ (∀ p ∈ cs i, M p.1 ∧ Cell K mg M H p.1 p.2) ∧ (dom (cs i)).Nodup ∧
    ∀ v H', (∀ a, M a → H' a ≠ none) → Ext (dom (cs i)) H H' → (∀ p ∈ cs' i, M p.1 ∧ Cell K mg M H' p.1 p.2) → R K mg M H' v (res i) → Q v H'
/-- nothing that may change is asked -/
abbrev puSp (K : PySem.W.Frag) (mg : Str → Option Value) {ι : Type} (pre : ι → Prop) (args : ι → List D) (res : ι → D) : Sp := fnSp K mg pre args (fun _ => []) res (fun _ => [])
/-- __init__: the new instance behind it -/
def mkSp (K : PySem.W.Frag) (mg : Str → Option Value) (c : Str) {ι : Type} (pre : ι → Prop) (args : ι → List D) (ns : List Str) (ds : ι → List D) : Sp := fun vs H Q _ =>
  ∃ (M : Addr → Prop) (i : ι) (x C dx : Addr) (rest : List V), pre i ∧ vs = .ref x :: rest ∧ mg c = some (.ref C) ∧ H x = some (.ins C dx []) ∧ ¬ M x ∧ (∀ a, M a → H a ≠ none) ∧ Rs K mg (fun a => M a ∨ a = x) H rest (args i) ∧
    ∀ H', (∀ a, M a → H' a ≠ none) → Ext [x] H H' → R K mg M H' (.ref x) (.obj c ns (ds i)) → Q .non H'

/-- a def of the module -/
structure Dfn (P : Program) (w : World) (K : PySem.W.Frag) (mg : Str → Option Value) (base : Heap) (n : Str) (k : Nat) (sp : Sp) : Prop where
  ex : ∃ f, mg n = some (.ref f) ∧ PySem.W.keepIn K (.ref f) = true ∧ FnR P w K mg base (L2.CX P w) k f sp
/-- a method of a class -/
structure Mth (P : Program) (w : World) (K : PySem.W.Frag) (mg : Str → Option Value) (base : Heap) (c m : Str) (k : Nat) (sp : Sp) : Prop where
  ex : ∃ C f, mg c = some (.ref C) ∧ Cls K C ∧ Meth K C m f ∧ FnR P w K mg base (L2.CX P w) k f sp
/-- a property -/
structure Prp (P : Program) (w : World) (K : PySem.W.Frag) (mg : Str → Option Value) (base : Heap) (c m : Str) (k : Nat) (sp : Sp) : Prop where
  ex : ∃ C p g, mg c = some (.ref C) ∧ Cls K C ∧ PropOf K C m p g ∧ FnR P w K mg base (L2.CX P w) k g sp
/-- a class that is made -/
structure Mkr (P : Program) (w : World) (K : PySem.W.Frag) (mg : Str → Option Value) (base : Heap) (c : Str) (k : Nat) (sp : Sp) : Prop where
  ex : ∃ C f, mg c = some (.ref C) ∧ Mk K C f ∧ FnR P w K mg base (L2.CX P w) k f sp
/-- C.m is a static method: its record at p, its def at g -/
structure CStm (K : PySem.W.Frag) (C : Addr) (mc : Value) (m : Str) (g : Addr) : Prop where
  ex : ∃ p, PySem.W.findCls K (.ref C) mc m = some (.get (.builtin "staticmethod.__get__") (.ref p) .none (.ref C)) ∧ ∃ rest, PySem.W.recIn K p "staticmethod" = some (.ref g :: rest)
/-- a static method -/
structure Stc (P : Program) (w : World) (K : PySem.W.Frag) (mg : Str → Option Value) (base : Heap) (c m : Str) (k : Nat) (sp : Sp) : Prop where
  ex : ∃ C mc g, mg c = some (.ref C) ∧ ClX.CRead K C mc ∧ CStm K C mc m g ∧ PySem.W.keepIn K (.ref g) = true ∧ FnR P w K mg base (L2.CX P w) k g sp

/-- one thing has become another -/
inductive Upd1 (a : Addr) (c c' : MC) : Cs → Cs → Prop
  | here {r : Cs} : Upd1 a c c' ((a, c) :: r) ((a, c') :: r)
  | there {p : Addr × MC} {r r' : Cs} (h : Upd1 a c c' r r') : Upd1 a c c' (p :: r) (p :: r')
theorem Upd1.dm {a : Addr} {c c' : MC} {r r' : Cs} (h : Upd1 a c c' r r') : dom r' = dom r := by
  induction h with
  | here => rfl
  | there _ ih => exact congrArg (List.cons _) ih
theorem Upd1.mem {a : Addr} {c c' : MC} {r r' : Cs} (h : Upd1 a c c' r r') : (a, c) ∈ r := by
  induction h with
  | here => exact List.mem_cons_self
  | there _ ih => exact List.mem_cons_of_mem _ ih
theorem Upd1.of {a : Addr} {c c' : MC} {r r' : Cs} (h : Upd1 a c c' r r') : (dom r).Nodup → ∀ p ∈ r', p = (a, c') ∨ (p ∈ r ∧ p.1 ≠ a) := by
  induction h with
  | here =>
    intro nd p hp
    rcases List.mem_cons.mp hp with e | e
    · exact .inl e
    · refine .inr ⟨List.mem_cons_of_mem _ e, fun z => ?_⟩
      refine (List.nodup_cons.mp nd).1 ?_
      show a ∈ _
      rw [← z]
      exact List.mem_map_of_mem (f := (·.1)) e
  | there h ih =>
    intro nd p hp
    have nd' := (List.nodup_cons.mp nd)
    rcases List.mem_cons.mp hp with e | e
    · subst e
      refine .inr ⟨List.mem_cons_self, fun z => nd'.1 ?_⟩
      show p.1 ∈ _
      rw [z]
      exact List.mem_map_of_mem (f := (·.1)) h.mem
    · rcases ih nd'.2 p e with q | ⟨q1, q2⟩
      · exact .inl q
      · exact .inr ⟨List.mem_cons_of_mem _ q1, q2⟩

section
variable {X : Cx} {CX : CXT} {k : Nat} {f : Addr} {sp : Sp} {E : XK} {x m : Str} {p pos apos : Pos} {ex o : Expr} {es : List Expr} {t : TA} {ta : TE}
theorem pe_callR (F : FnR X.prog X.w X.K X.mg X.base CX k f sp) (hr : Room k X.A) (hg : Gl X x) (hm : X.mg x = some (.ref f)) (hk : PySem.W.keepIn X.K (.ref f) = true) (hx : Passes CX X E) (ha : PA X (ex :: es) t)
    (hdb : (x == ("__debug__" : Str)) = false := by decide) (he : starEach (ex :: es) X.env = (false, eval ex X.env) :: starEach es X.env := by rfl) (hpl : (backTo pos (starEach es X.env)).any (·.1) = false := by rfl) :
    PE X (.Call (.Name x p) (ex :: es) [] pos) (fun σ H Q => t σ H fun vs H1 => sp vs H1 Q E) := by
  refine ⟨fun pins s σ H Q I h => ?_⟩
  refine wpAny_Call_Name_kw (ld_glob I hg hm ?_ hdb)
  refine PySem.W.callWith_K (h₀ := X.base) I.ok.mod.kin hk (thn (ha.run pos pins s σ H _ I h) fun us s1 ⟨vs, H1, I1, r, q⟩ => ⟨I1.kIn, ?_⟩) he hpl
  exact wpAny_call (run_fnR F hr hx I1 r q)
theorem pe_callR0 (F : FnR X.prog X.w X.K X.mg X.base CX k f sp) (hr : Room k X.A) (hg : Gl X x) (hm : X.mg x = some (.ref f)) (hk : PySem.W.keepIn X.K (.ref f) = true) (hx : Passes CX X E)
    (hdb : (x == ("__debug__" : Str)) = false := by decide) : PE X (.Call (.Name x p) [] [] pos) (fun σ H Q => sp [] H Q E) := by
  refine ⟨fun pins s σ H Q I h => ?_⟩
  refine wpAny_Call_Name_kw (ld_glob I hg hm ?_ hdb)
  exact PySem.W.callWith_K0 I.kIn hk (wpAny_call (run_fnR (us := []) F hr hx I .nil h))
theorem pe_methR0 {C : Addr} {pl : Sem Bool} (he : PE X o ta) (c : Cls X.K C) (hm : Meth X.K C m f) (F : FnR X.prog X.w X.K X.mg X.base CX k f sp) (hr : Room k X.A) (hx : Passes CX X E)
    (ht : eval (.Call (.Attribute o m apos) [] [] pos) X.env = (do
      let ov ← eval o X.env
      standAt apos.atName
      let (f, first) ← holding [ov] (getMethod ov m pl)
      callWith pos f first (backTo pos (starEach [] X.env)) (backToKw pos (keywordEach [] X.env))) := by rfl) :
    PE X (.Call (.Attribute o m apos) [] [] pos) (fun σ H Q => ta σ H fun x H1 => ∃ a dx fs, x = .ref a ∧ H1 a = some (.ins C dx fs) ∧ fs.lookup m = none ∧ sp [x] H1 Q E) := by
  refine ⟨fun pins s σ H Q I h => ?_⟩
  refine PySem.W.methodCall_KW (pl := pl) (thn (he.run pins s σ H _ I h) fun u s1 ⟨x, H1, I1, rx, a, dx, fs, ex, ea, l, q⟩ => ?_) ht
  subst ex
  obtain rfl : u = Value.ref a := rx
  refine getmeth_ok I1 ea c hm l ?_
  exact PySem.W.callWith_K0 (first := [.ref a]) I1.kIn hm.kp (wpAny_call (run_fnR (us := [.ref a]) (vs := [.ref a]) F hr hx I1 (.cons rfl .nil) q))
/-- e.f, a property -/
theorem pe_propR {C pp g : Addr} {fn : Str} (he : PE X o ta) (c : Cls X.K C) (hp : PropOf X.K C fn pp g) (F : FnR X.prog X.w X.K X.mg X.base CX k g sp) (hr : Room (k + 1) X.A) (hx : Passes CX X.nox E)
    (hab : attributeBase o fn X.env (eval o X.env) = eval o X.env) : PE X (.Attribute o fn pos) (fun σ H Q => ta σ H fun x H1 => ∃ a dx fs, x = .ref a ∧ H1 a = some (.ins C dx fs) ∧ sp [.ref a] H1 Q E) := by
  refine ⟨fun pins s σ H Q I0 h => ?_⟩
  refine attr_of hab (thn (he.run pins s σ H _ I0 h) fun u s1 ⟨x, H1, I, rx, a, dx, fs, ex, ea, q⟩ => ?_)
  subst ex
  obtain rfl : u = Value.ref a := rx
  obtain ⟨mA, O, _, _, _, _⟩ := ins_get I.hok ea
  obtain ⟨od, J, _⟩ := O.look
  obtain ⟨rest, hrec⟩ := hp.rec_
  have I1 := I.tok (s1.toks + 1)
  have hc : (PySem.W.clsIn X.K C).isSome = true := by
    obtain ⟨cd, hc, _⟩ := PySem.W.any_some c.hd
    rw [hc]; rfl
  refine PySem.W.get_bind I.kIn J (PySem.W.plainGet_of (c.get fn)).1 (PySem.W.findObj_data hc hp.at_ hp.get hp.tak) (PySem.W.plainGet_of (c.get fn)).2 (wpAny_call (PySem.W.prop_get (s := { s1 with toks := s1.toks + 1 }) I.kIn hrec ?_))
  refine codeAny_mono (F X.A.in1 X.stack { s1 with toks := s1.toks + 1 } H1 [.ref a] [.ref a] Q E hr.in1 I1.env0.in1 (.cons rfl .nil) q) fun r s' hq => ?_
  cases r with
  | error er => exact False.elim (hx pins σ H1 { s1 with toks := s1.toks + 1 } er s' (I1.wish _) hq)
  | ok fl =>
    cases fl with
    | ret u =>
      obtain ⟨v, H', I3, rv, q3⟩ := I1.after hq
      show wpAny _ _ (handedOut u) _ _ _
      rw [PySem.W.handedOut_of (handed_of rv)]
      exact wpAny_pure ⟨v, H', I3, rv, q3⟩
    | next => exact False.elim hq
    | brk => exact False.elim hq
    | cont => exact False.elim hq
theorem getcst_ok {C g : Addr} {mc : Value} {b : Bool} {pins : List (Addr × Obj)} {σ : L2.St} {H : Hp} {s : Shared} {A : Around} {E : Value → Shared → Prop} {Q : Value → Shared → Prop} (I : Inv X pins σ H s) (r : ClX.CRead X.K C mc) (k : CStm X.K C mc m g) (h : ∀ s', Inv X pins σ H s' → Q (.ref g) s') : wpAny (model X.prog X.w) A (getAttr (.ref C) m b) Q E s := by
  obtain ⟨p, h1, rest, h2⟩ := k.ex
  exact PySem.W.cls_bind I.kIn r.rd h1 (wpAny_call (PySem.W.sm_get (s := { s with toks := s.toks + 1 }) I.kIn h2 (PySem.W.handed_on rfl (h _ (I.tok _)))))
/-- C.m(..), m a static method -/
theorem pe_cstat {C g : Addr} {mc : Value} {pl : Sem Bool} (he : PE X o ta) (r : ClX.CRead X.K C mc) (c : CStm X.K C mc m g) (hk : PySem.W.keepIn X.K (.ref g) = true) (F : FnR X.prog X.w X.K X.mg X.base CX k g sp) (hr : Room k X.A) (hx : Passes CX X E) (ha : PA X (ex :: es) t)
    (hst : starEach (ex :: es) X.env = (false, eval ex X.env) :: starEach es X.env := by rfl) (hpl : (backTo pos (starEach es X.env)).any (·.1) = false := by rfl)
    (ht : eval (.Call (.Attribute o m apos) (ex :: es) [] pos) X.env = (do
      let ov ← eval o X.env
      standAt apos.atName
      let (f, first) ← holding [ov] (getMethod ov m pl)
      callWith pos f first (backTo pos (starEach (ex :: es) X.env)) (backToKw pos (keywordEach [] X.env))) := by rfl) :
    PE X (.Call (.Attribute o m apos) (ex :: es) [] pos) (fun σ H Q => ta σ H fun x H1 => x = .ref C ∧ t σ H1 fun vs H2 => sp vs H2 Q E) := by
  refine ⟨fun pins s σ H Q I h => ?_⟩
  refine PySem.W.methodCall_KW (pl := pl) (thn (he.run pins s σ H _ I h) fun u s1 ⟨x, H1, I1, rx, ex, q⟩ => ?_) ht
  subst ex
  obtain rfl : u = Value.ref C := rx
  refine PySem.W.method_cls I1.kIn r.ga (getcst_ok I1 r c fun s2 I2 => ?_)
  refine PySem.W.callWith_K (first := []) (h₀ := X.base) I2.ok.mod.kin hk (thn (ha.run pos pins s2 σ H1 _ I2 q) fun us s3 ⟨vs, H2, I3, rv, q2⟩ => ⟨I3.kIn, ?_⟩) hst hpl
  exact wpAny_call (run_fnR F hr hx I3 rv q2)
theorem pe_cstat0 {C g : Addr} {mc : Value} {pl : Sem Bool} (he : PE X o ta) (r : ClX.CRead X.K C mc) (c : CStm X.K C mc m g) (hk : PySem.W.keepIn X.K (.ref g) = true) (F : FnR X.prog X.w X.K X.mg X.base CX k g sp) (hr : Room k X.A) (hx : Passes CX X E)
    (ht : eval (.Call (.Attribute o m apos) [] [] pos) X.env = (do
      let ov ← eval o X.env
      standAt apos.atName
      let (f, first) ← holding [ov] (getMethod ov m pl)
      callWith pos f first (backTo pos (starEach [] X.env)) (backToKw pos (keywordEach [] X.env))) := by rfl) :
    PE X (.Call (.Attribute o m apos) [] [] pos) (fun σ H Q => ta σ H fun x H1 => x = .ref C ∧ sp [] H1 Q E) := by
  refine ⟨fun pins s σ H Q I h => ?_⟩
  refine PySem.W.methodCall_KW (pl := pl) (thn (he.run pins s σ H _ I h) fun u s1 ⟨x, H1, I1, rx, ex, q⟩ => ?_) ht
  subst ex
  obtain rfl : u = Value.ref C := rx
  refine PySem.W.method_cls I1.kIn r.ga (getcst_ok I1 r c fun s2 I2 => ?_)
  exact PySem.W.callWith_K0 (first := []) I2.kIn hk (wpAny_call (run_fnR (us := []) F hr hx I2 .nil q))
/-- C() by a positional promise -/
theorem pe_makeR0 {C : Addr} (M : Mk X.K C f) (F : FnR X.prog X.w X.K X.mg X.base CX k f sp) (hr : Room (k + 1) X.A) (hg : Gl X x) (hm : X.mg x = some (.ref C)) (hx : Passes CX X E) (hdb : (x == ("__debug__" : Str)) = false := by decide) :
    PE X (.Call (.Name x p) [] [] pos) (StX.tMakeR C sp E tNil) := by
  refine ⟨fun pins s σ H Q I h => ?_⟩
  refine wpAny_Call_Name_kw (ld_glob I hg hm ?_ hdb)
  exact PySem.W.callWith_K0 I.kIn M.kp (StX.run_makeR (us := []) M F hr hx I .nil h)
end

section
variable {X : Cx} {M : Addr → Prop} {e : DE} {cs cs1 cs2 cs3 : Cs} {pos p pos' apos : Pos} {a b c ex o : Expr} {es : List Expr} {d x y z : D} {ds : List D} {n m : Str} {k j : Nat}
variable {ι : Type} {pre : ι → Prop} {args : ι → List D} {cz cz' : ι → Cs} {res : ι → D}

/-- what a promise gives at a caller's -/
theorem sp_use {σ : L2.St} {H : Hp} {Q : VK} {E : XK} {vs : List V} (i : ι) (hp : pre i) (S : Sit X.K X.mg M σ H e cs1) (r : Rs X.K X.mg M H vs (args i)) (hz : ∀ q ∈ cz i, q ∈ cs1) (nd : (dom (cz i)).Nodup)
    (hd : dom cs2 = dom cs1) (hz' : ∀ q ∈ cs2, q ∈ cz' i ∨ (q ∈ cs1 ∧ q.1 ∉ dom (cz i)))
    (k : ∀ v H', Sit X.K X.mg M σ H' e cs2 → Ext (dom cs1) H H' → R X.K X.mg M H' v (res i) → Q v H') : fnSp X.K X.mg pre args cz res cz' vs H Q E := by
  refine ⟨M, i, hp, S.mt, r, fun q hq => S.cel q (hz q hq), nd, fun v H' mt xt cl rv => ?_⟩
  have hsub : ∀ a ∈ dom (cz i), a ∈ dom cs1 := fun a ha => by
    obtain ⟨q, hq, rfl⟩ := List.mem_map.mp ha
    exact List.mem_map_of_mem (hz q hq)
  have xt' : Ext (dom cs1) H H' := xt.mono hsub
  refine k v H' (S.step hd xt' mt fun q hq => ?_) xt' rv
  rcases hz' q hq with h | ⟨h, hn⟩
  · exact cl q h
  · exact ⟨(S.cel q h).1, (S.cel q h).2.ext (S.keeps xt') (fun _ n _ => n) fun u hu => xt _ u hu hn⟩
/-- f(..), nothing changes -/
theorem e_call (F : Dfn X.prog X.w X.K X.mg X.base n k (puSp X.K X.mg pre args res)) (hr : Room k X.A) (ha : EA X M e cs (a :: es) ds cs1) (i : ι) (hp : pre i) (hds : ds = args i) (hg : Gl X n := by rfl)
    (hdb : (n == ("__debug__" : Str)) = false := by decide) (he : starEach (a :: es) X.env = (false, eval a X.env) :: starEach es X.env := by rfl) (hpl : (backTo pos (starEach es X.env)).any (·.1) = false := by rfl) : EE X M e cs (.Call (.Name n p) (a :: es) [] pos) (res i) cs1 where
  dm := ha.dm
  k := fun σ H Q S k => by
    obtain ⟨f, hm, hk, F⟩ := F.ex
    refine we_of (pe_callR (E := E0) F hr hg hm hk passL pa_w hdb he hpl) (ha.k σ H _ S fun vs H1 S1 x1 r1 => ?_)
    subst hds
    exact sp_use i hp S1 r1 (by simp) (by simp) rfl (fun q hq => .inr ⟨hq, by simp⟩) fun v H' S2 x2 r2 => k v H' S2 (x1.trans (by rw [← ha.dm]; exact x2)) r2
theorem e_call0 (F : Dfn X.prog X.w X.K X.mg X.base n k (puSp X.K X.mg pre args res)) (hr : Room k X.A) (i : ι) (hp : pre i) (hds : [] = args i) (hg : Gl X n := by rfl) (hdb : (n == ("__debug__" : Str)) = false := by decide) : EE X M e cs (.Call (.Name n p) [] [] pos) (res i) cs where
  dm := rfl
  k := fun σ H Q S k => by
    obtain ⟨f, hm, hk, F⟩ := F.ex
    refine we_of (pe_callR0 (E := E0) F hr hg hm hk passL hdb) ?_
    exact sp_use i hp S (by rw [← hds]; exact Rs.nil) (by simp) (by simp) rfl (fun q hq => .inr ⟨hq, by simp⟩) fun v H' S2 x2 r2 => k v H' S2 x2 r2
/-- f(..), one thing changes -/
theorem e_call1 {ad : Addr} {mc mc' : MC} (F : Dfn X.prog X.w X.K X.mg X.base n k (fnSp X.K X.mg pre args cz res cz')) (hr : Room k X.A) (ha : EA X M e cs (a :: es) ds cs1) (i : ι) (hp : pre i) (hds : ds = args i) (h1 : cz i = [(ad, mc)]) (h2 : cz' i = [(ad, mc')]) (hu : Upd1 ad mc mc' cs1 cs2) (hg : Gl X n := by rfl)
    (hdb : (n == ("__debug__" : Str)) = false := by decide) (he : starEach (a :: es) X.env = (false, eval a X.env) :: starEach es X.env := by rfl) (hpl : (backTo pos (starEach es X.env)).any (·.1) = false := by rfl) : EE X M e cs (.Call (.Name n p) (a :: es) [] pos) (res i) cs2 where
  dm := hu.dm.trans ha.dm
  k := fun σ H Q S k => by
    obtain ⟨f, hm, hk, F⟩ := F.ex
    refine we_of (pe_callR (E := E0) F hr hg hm hk passL pa_w hdb he hpl) (ha.k σ H _ S fun vs H1 S1 x1 r1 => ?_)
    subst hds
    refine sp_use i hp S1 r1 (by rw [h1]; simpa using hu.mem) (by rw [h1]; simp) hu.dm (fun q hq => ?_) fun v H' S2 x2 r2 => k v H' S2 (x1.trans (by rw [← ha.dm]; exact x2)) r2
    rw [h1, h2]
    rcases hu.of S1.nd q hq with z | ⟨z1, z2⟩
    · exact .inl (by simp [z])
    · exact .inr ⟨z1, by simpa using z2⟩

/-! ### objects -/
theorem r_obj {H : Hp} {v : V} {cn : Str} {ns : List Str} (r : R X.K X.mg M H v (.obj cn ns ds)) : ∃ (a C dx : Addr) (xs : List V), v = .ref a ∧ ¬ M a ∧ X.mg cn = some (.ref C) ∧ H a = some (.ins C dx (ns.zip xs)) ∧ ns.length = xs.length ∧ Rs X.K X.mg M H xs ds := by
  unfold R at r; exact r
theorem zip_lookup {m : Str} : ∀ {ns : List Str} {xs : List V} {i : Nat} {x : V}, ns.idxOf? m = some i → xs[i]? = some x → (ns.zip xs).lookup m = some x
  | [], _, _, _, h, _ => by simp at h
  | n :: ns, [], i, _, _, e => by simp at e
  | n :: ns, y :: xs, i, x, h, e => by
    rw [List.idxOf?_cons] at h
    by_cases q : n = m
    · subst q
      simp at h; subst h
      simp at e; subst e
      simp [List.lookup]
    · simp [q] at h
      obtain ⟨j, hj, rfl⟩ := h
      have : (m == n) = false := by simpa using fun z => q z.symm
      simp only [List.zip_cons_cons, List.lookup_cons, this]
      exact zip_lookup hj (by simpa using e)
theorem zip_lookup_none {m : Str} : ∀ {ns : List Str} {xs : List V}, m ∉ ns → (ns.zip xs).lookup m = none
  | [], _, _ => by simp
  | n :: ns, [], _ => by simp
  | n :: ns, y :: xs, h => by
    have h1 : (m == n) = false := by simpa using fun z => h (by simp [z])
    simp only [List.zip_cons_cons, List.lookup_cons, h1]
    exact zip_lookup_none fun z => h (List.mem_cons_of_mem _ z)
/-- e.f, a field of an instance -/
theorem e_fld {cn : Str} {ns : List Str} {C : Addr} (ha : EE X M e cs a (.obj cn ns ds) cs1) (hm : X.mg cn = some (.ref C)) (hc : Cls X.K C) (hn : NoAttr X.K C m) (i : Nat) (hi : ns.idxOf? m = some i) (hd : ds[i]? = some d)
    (hb : attributeBase a m X.env (eval a X.env) = eval a X.env := by rfl) : EE X M e cs (.Attribute a m pos) d cs1 where
  dm := ha.dm
  k := fun σ H Q S k => we_of (pe_fld pe_w hb) (ha.k σ H _ S fun v H1 S1 x1 r1 => by
    obtain ⟨ad, C', dx, xs, rfl, _, hm', ho, hl, rs⟩ := r_obj r1
    rw [hm] at hm'; cases hm'
    obtain ⟨u, hu, ru⟩ := rs.get hd
    exact ⟨ad, C, dx, _, u, rfl, ho, hc, hn, zip_lookup hi hu, k u H1 S1 x1 ru⟩)
/-- e.f, a property -/
theorem e_prop {cn : Str} {ns : List Str} (F : Prp X.prog X.w X.K X.mg X.base cn m k (puSp X.K X.mg pre args res)) (hr : Room (k + 1) X.A) (ha : EE X M e cs a (.obj cn ns ds) cs1) (i : ι) (hp : pre i) (hds : [.obj cn ns ds] = args i)
    (hb : attributeBase a m X.env (eval a X.env) = eval a X.env := by rfl) : EE X M e cs (.Attribute a m pos) (res i) cs1 where
  dm := ha.dm
  k := fun σ H Q S k => by
    obtain ⟨C, pp, g, hm, hc, hpp, F⟩ := F.ex
    refine we_of (pe_propR (E := E0) pe_w hc hpp F hr passL hb) (ha.k σ H _ S fun v H1 S1 x1 r1 => ?_)
    obtain ⟨ad, C', dx, xs, rfl, _, hm', ho, hl, rs⟩ := r_obj r1
    rw [hm] at hm'; cases hm'
    refine ⟨ad, dx, _, rfl, ho, sp_use i hp S1 (by rw [← hds]; exact .cons r1 .nil) (by simp) (by simp) rfl (fun q hq => .inr ⟨hq, by simp⟩) fun v H' S2 x2 r2 => k v H' S2 (x1.trans (by rw [← ha.dm]; exact x2)) r2⟩
/-- o.m(..), o an instance that does not change -/
theorem e_meth {cn : Str} {ns : List Str} {pl : Sem Bool} (F : Mth X.prog X.w X.K X.mg X.base cn m k (puSp X.K X.mg pre args res)) (hr : Room k X.A) (ho : EE X M e cs o (.obj cn ns ds) cs1) (ha : EA X M e cs1 (a :: es) [x] cs2) (hnm : m ∉ ns) (i : ι) (hp : pre i) (hds : [.obj cn ns ds, x] = args i)
    (hst : starEach (a :: es) X.env = (false, eval a X.env) :: starEach es X.env := by rfl) (hpl : (backTo pos (starEach es X.env)).any (·.1) = false := by rfl)
    (ht : eval (.Call (.Attribute o m apos) (a :: es) [] pos) X.env = (do
      let ov ← eval o X.env
      standAt apos.atName
      let (f, first) ← holding [ov] (getMethod ov m pl)
      callWith pos f first (backTo pos (starEach (a :: es) X.env)) (backToKw pos (keywordEach [] X.env))) := by rfl) : EE X M e cs (.Call (.Attribute o m apos) (a :: es) [] pos) (res i) cs2 where
  dm := ha.dm.trans ho.dm
  k := fun σ H Q S k => by
    obtain ⟨C, f, hm, hc, hmt, F⟩ := F.ex
    refine we_of (pe_methR (E := E0) pe_w hc hmt F hr passL pa_w hst hpl ht) (ho.k σ H _ S fun v H1 S1 x1 r1 => ?_)
    obtain ⟨ad, C', dx, xs, rfl, hM, hm', hob, hl, rs⟩ := r_obj r1
    rw [hm] at hm'; cases hm'
    refine ⟨ad, dx, _, rfl, hob, zip_lookup_none hnm, ha.k σ H1 _ S1 fun vs H2 S2 x2 r2 => ?_⟩
    refine sp_use i hp S2 (by rw [← hds]; exact .cons (S1.r x2 r1) r2) (by simp) (by simp) rfl (fun q hq => .inr ⟨hq, by simp⟩) fun v H' S3 x3 r3 => k v H' S3 ((x1.trans (by rw [← ho.dm]; exact x2)).trans (by rw [← ho.dm, ← ha.dm]; exact x3)) r3
theorem e_meth0 {cn : Str} {ns : List Str} {pl : Sem Bool} (F : Mth X.prog X.w X.K X.mg X.base cn m k (puSp X.K X.mg pre args res)) (hr : Room k X.A) (ho : EE X M e cs o (.obj cn ns ds) cs1) (hnm : m ∉ ns) (i : ι) (hp : pre i) (hds : [.obj cn ns ds] = args i)
    (ht : eval (.Call (.Attribute o m apos) [] [] pos) X.env = (do
      let ov ← eval o X.env
      standAt apos.atName
      let (f, first) ← holding [ov] (getMethod ov m pl)
      callWith pos f first (backTo pos (starEach [] X.env)) (backToKw pos (keywordEach [] X.env))) := by rfl) : EE X M e cs (.Call (.Attribute o m apos) [] [] pos) (res i) cs1 where
  dm := ho.dm
  k := fun σ H Q S k => by
    obtain ⟨C, f, hm, hc, hmt, F⟩ := F.ex
    refine we_of (pe_methR0 (E := E0) pe_w hc hmt F hr passL ht) (ho.k σ H _ S fun v H1 S1 x1 r1 => ?_)
    obtain ⟨ad, C', dx, xs, rfl, hM, hm', hob, hl, rs⟩ := r_obj r1
    rw [hm] at hm'; cases hm'
    refine ⟨ad, dx, _, rfl, hob, zip_lookup_none hnm, ?_⟩
    refine sp_use i hp S1 (by rw [← hds]; exact .cons r1 .nil) (by simp) (by simp) rfl (fun q hq => .inr ⟨hq, by simp⟩) fun v H' S3 x3 r3 => k v H' S3 (x1.trans (by rw [← ho.dm]; exact x3)) r3
/-- C(..) -/
theorem mk_use {σ : L2.St} {H : Hp} {Q : VK} {C xa dx : Addr} {vs : List V} {cn : Str} {ns : List Str} {dz : ι → List D} {E : XK} (i : ι) (hp : pre i) (hm : X.mg cn = some (.ref C)) (S : Sit X.K X.mg M σ H e cs1) (r : Rs X.K X.mg M H vs (args i)) (hx : H xa = none) (hdx : H dx = none) (hne : dx ≠ xa)
    (k : ∀ v H', Sit X.K X.mg M σ H' e cs1 → Ext [] H H' → R X.K X.mg M H' v (.obj cn ns (dz i)) → Q v H') : mkSp X.K X.mg cn pre args ns dz (V.ref xa :: vs) (upd (upd H dx (.own xa)) xa (.ins C dx [])) (fun v H2 => v = .non ∧ Q (.ref xa) H2) E := by
  have ke : ∀ a o, H a = some o → upd (upd H dx (.own xa)) xa (.ins C dx []) a = some o := fun a o h => by
    rw [upd_ne (ne_of_none h hx), upd_ne (ne_of_none h hdx)]; exact h
  have tr : ∀ a, H a ≠ none → upd (upd H dx (.own xa)) xa (.ins C dx []) a ≠ none := fun a h => by
    cases q : H a with
    | none => exact absurd q h
    | some o => rw [ke a o q]; simp
  refine ⟨M, i, xa, C, dx, vs, hp, rfl, hm, upd_same, new_m S.mt hx, fun a ma => tr a (S.mt a ma), Rs.ext (fun a o _ h => ke a o h) (fun a n h z => z.elim n fun z => h (z ▸ hx)) _ r, fun H' mt xt ro => ⟨rfl, ?_⟩⟩
  have xt' : Ext [] H H' := fun a o h _ => xt a o (ke a o h) (by simpa using ne_of_none h hx)
  exact k _ H' (S.ex xt') xt' ro
theorem e_make {cn : Str} {ns : List Str} {dz : ι → List D} (F : Mkr X.prog X.w X.K X.mg X.base cn k (mkSp X.K X.mg cn pre args ns dz)) (hr : Room (k + 1) X.A) (ha : EA X M e cs (a :: es) ds cs1) (i : ι) (hp : pre i) (hds : ds = args i) (hg : Gl X cn := by rfl)
    (hdb : (cn == ("__debug__" : Str)) = false := by decide) (he : starEach (a :: es) X.env = (false, eval a X.env) :: starEach es X.env := by rfl) (hpl : (backTo pos (starEach es X.env)).any (·.1) = false := by rfl) : EE X M e cs (.Call (.Name cn p) (a :: es) [] pos) (.obj cn ns (dz i)) cs1 where
  dm := ha.dm
  k := fun σ H Q S k => by
    obtain ⟨C, f, hm, hmk, F⟩ := F.ex
    refine we_of (StX.pe_makeR (E := E0) hmk F hr hg hm passL pa_w hdb he hpl) (ha.k σ H _ S fun vs H1 S1 x1 r1 xa dx hx hdx hne => ?_)
    subst hds
    exact mk_use i hp hm S1 r1 hx hdx hne fun v H' S2 x2 r2 => k v H' S2 (x1.trans (x2.mono (by simp))) r2
theorem e_make0 {cn : Str} {ns : List Str} {dz : ι → List D} (F : Mkr X.prog X.w X.K X.mg X.base cn k (mkSp X.K X.mg cn pre args ns dz)) (hr : Room (k + 1) X.A) (i : ι) (hp : pre i) (hds : [] = args i) (hg : Gl X cn := by rfl)
    (hdb : (cn == ("__debug__" : Str)) = false := by decide) : EE X M e cs (.Call (.Name cn p) [] [] pos) (.obj cn ns (dz i)) cs where
  dm := rfl
  k := fun σ H Q S k => by
    obtain ⟨C, f, hm, hmk, F⟩ := F.ex
    refine we_of (pe_makeR0 (E := E0) hmk F hr hg hm passL hdb) (fun xa dx hx hdx hne => ?_)
    exact mk_use i hp hm S (by rw [← hds]; exact Rs.nil) hx hdx hne (fun v H' S2 x2 r2 => k v H' S2 (x2.mono (by simp)) r2)
/-- C.m(..), m static -/
theorem e_stat {cn : Str} {pl : Sem Bool} (F : Stc X.prog X.w X.K X.mg X.base cn m k (puSp X.K X.mg pre args res)) (hr : Room k X.A) (ha : EA X M e cs (a :: es) ds cs1) (i : ι) (hp : pre i) (hds : ds = args i) (hg : Gl X cn := by rfl) (hdb : (cn == ("__debug__" : Str)) = false := by decide)
    (hst : starEach (a :: es) X.env = (false, eval a X.env) :: starEach es X.env := by rfl) (hpl : (backTo pos (starEach es X.env)).any (·.1) = false := by rfl)
    (ht : eval (.Call (.Attribute (.Name cn p) m apos) (a :: es) [] pos) X.env = (do
      let ov ← eval (.Name cn p) X.env
      standAt apos.atName
      let (f, first) ← holding [ov] (getMethod ov m pl)
      callWith pos f first (backTo pos (starEach (a :: es) X.env)) (backToKw pos (keywordEach [] X.env))) := by rfl) : EE X M e cs (.Call (.Attribute (.Name cn p) m apos) (a :: es) [] pos) (res i) cs1 where
  dm := ha.dm
  k := fun σ H Q S k => by
    obtain ⟨C, mc, g, hm, hrd, hv, hk, F⟩ := F.ex
    refine we_of (pe_cstat (E := E0) (pe_glob (v := .ref C) hg hm rfl hdb) hrd hv hk F hr passL pa_w hst hpl ht) ⟨rfl, ha.k σ H _ S fun vs H1 S1 x1 r1 => ?_⟩
    subst hds
    exact sp_use i hp S1 r1 (by simp) (by simp) rfl (fun q hq => .inr ⟨hq, by simp⟩) fun v H' S2 x2 r2 => k v H' S2 (x1.trans (by rw [← ha.dm]; exact x2)) r2
theorem e_stat0 {cn : Str} {pl : Sem Bool} (F : Stc X.prog X.w X.K X.mg X.base cn m k (puSp X.K X.mg pre args res)) (hr : Room k X.A) (i : ι) (hp : pre i) (hds : [] = args i) (hg : Gl X cn := by rfl) (hdb : (cn == ("__debug__" : Str)) = false := by decide)
    (ht : eval (.Call (.Attribute (.Name cn p) m apos) [] [] pos) X.env = (do
      let ov ← eval (.Name cn p) X.env
      standAt apos.atName
      let (f, first) ← holding [ov] (getMethod ov m pl)
      callWith pos f first (backTo pos (starEach [] X.env)) (backToKw pos (keywordEach [] X.env))) := by rfl) : EE X M e cs (.Call (.Attribute (.Name cn p) m apos) [] [] pos) (res i) cs where
  dm := rfl
  k := fun σ H Q S k => by
    obtain ⟨C, mc, g, hm, hrd, hv, hk, F⟩ := F.ex
    refine we_of (pe_cstat0 (E := E0) (pe_glob (v := .ref C) hg hm rfl hdb) hrd hv hk F hr passL ht) ⟨rfl, ?_⟩
    exact sp_use i hp S (by rw [← hds]; exact Rs.nil) (by simp) (by simp) rfl (fun q hq => .inr ⟨hq, by simp⟩) fun v H' S2 x2 r2 => k v H' S2 x2 r2
/-- C.f, a constant of a class -/
theorem e_ccon {cn : Str} {C : Addr} {mc u : Value} {i : Int} (hm : X.mg cn = some (.ref C)) (hrd : ClX.CRead X.K C mc) (hv : ClX.CVal X.K C mc m (.int i) u) (hg : Gl X cn := by rfl) (hdb : (cn == ("__debug__" : Str)) = false := by decide)
    (hb : attributeBase (.Name cn p) m X.env (eval (.Name cn p) X.env) = eval (.Name cn p) X.env := by rfl) : EE X M e cs (.Attribute (.Name cn p) m pos) (.int i) cs where
  dm := rfl
  k := fun σ H Q S k => we_of (ClX.pe_cval (pe_glob (v := .ref C) hg hm rfl hdb) hb) ⟨C, mc, .int i, u, rfl, hrd, hv, k _ H S (Ext.refl _ _) (by simp [R])⟩
/-! ### built-ins -/
theorem e_blt {id : String} (q : CalD X (.builtin id) ds z) (ha : EA X M e cs (a :: es) ds cs1) (hm : X.mg n = none) (hv : bootBuiltins n = some (.builtin id) := by decide +kernel) (hg : Gl X n := by rfl) (hn : n ≠ "__name__" := by decide) (hdb : (n == ("__debug__" : Str)) = false := by decide)
    (he : starEach (a :: es) X.env = (false, eval a X.env) :: starEach es X.env := by rfl) (hpl : (backTo pos (starEach es X.env)).any (·.1) = false := by rfl) : EE X M e cs (.Call (.Name n p) (a :: es) [] pos) z cs1 where
  dm := ha.dm
  k := fun σ H Q S k => by
    obtain ⟨r, hr, hk⟩ := q
    exact we_of (pe_callB hr hg hm hv pa_w hn hdb he hpl) (ha.k σ H _ S fun vs H1 S1 x1 r1 => hk M H1 vs Q S1.mt r1 (fin S1 x1 k))
theorem e_bty {T : String} (q : CalD X (.type T) ds z) (ha : EA X M e cs (a :: es) ds cs1) (hm : X.mg n = none) (hv : bootBuiltins n = some (.type T) := by decide +kernel) (hg : Gl X n := by rfl) (hn : n ≠ "__name__" := by decide) (hdb : (n == ("__debug__" : Str)) = false := by decide)
    (he : starEach (a :: es) X.env = (false, eval a X.env) :: starEach es X.env := by rfl) (hpl : (backTo pos (starEach es X.env)).any (·.1) = false := by rfl) : EE X M e cs (.Call (.Name n p) (a :: es) [] pos) z cs1 where
  dm := ha.dm
  k := fun σ H Q S k => by
    obtain ⟨r, hr, hk⟩ := q
    exact we_of (pe_callTy hr hg hm hv pa_w hn hdb he hpl) (ha.k σ H _ S fun vs H1 S1 x1 r1 => hk M H1 vs Q S1.mt r1 (fin S1 x1 k))
/-- s.m(e), s a text -/
theorem e_strm {s : Str} {id : String} (q : StrD X id s [x] z) (ho : EE X M e cs o (.str s) cs1) (ha : EE X M e cs1 a x cs2) (slot : Slot "str" m id) (ty : typeOf (.builtin id) = pure (.type "method_descriptor"))
    (h1 : ∀ r, MtR X id r → PE X (.Call (.Attribute o m apos) [a] [] pos) (tM1 r (wE X o) (wE X a)) := by intro r hr; exact pe_m1 slot ty hr pe_w pe_w) : EE X M e cs (.Call (.Attribute o m apos) [a] [] pos) z cs2 where
  dm := ha.dm.trans ho.dm
  k := fun σ H Q S k => by
    obtain ⟨r, hr, hk⟩ := q
    refine we_of (h1 r hr) (ho.k σ H _ S fun v H1 S1 x1 r1 => ?_)
    simp [R] at r1
    subst r1
    exact ⟨⟨_, rfl⟩, ha.k σ H1 _ S1 fun u H2 S2 x2 r2 => hk M H2 [u] Q S2.mt (.cons r2 .nil) (fin S2 (x1.trans (by rw [← ho.dm]; exact x2)) k)⟩
end
end Od

set_option Elab.async false
set_option linter.all false
set_option maxRecDepth 100000
set_option maxHeartbeats 4000000
namespace Od
open PySem L2

/-! ### what is walked -/
/-- in every later heap the walk gives the data ds in turn -/
def Walks (X : Cx) (M : Addr → Prop) (J : It) (ds : List D) (H : Hp) : Prop := ∀ (M2 : Addr → Prop) (H2 : Hp), (∀ a o, ¬ M a → H a = some o → ¬ M2 a ∧ H2 a = some o) → (∀ a, M2 a → H2 a ≠ none) →
  (∀ (i : Nat) (d : D), ds[i]? = some d → J.go i H2 ∧ ∀ x H3, J.yld i H2 x H3 → Ext [] H2 H3 ∧ R X.K X.mg M2 H3 x d) ∧ J.stop ds.length H2
structure EI (X : Cx) (M : Addr → Prop) (e : DE) (cs : Cs) (tg iter : Expr) (ds : List D) (cs' : Cs) : Prop where
  dm : dom cs' = dom cs
  k : ∃ wi, PI X tg iter wi ∧ ∀ (σ : L2.St) (H : Hp) (Q : It → Hp → Prop), Sit X.K X.mg M σ H e cs → (∀ J H', Sit X.K X.mg M σ H' e cs' → Ext (dom cs) H H' → Walks X M J ds H' → Q J H') → wi σ H Q
section
variable {X : Cx} {M M' : Addr → Prop} {e : DE} {cs cs1 cs2 cs3 : Cs} {pos p pos' apos : Pos} {tg a b c ex o : Expr} {es : List Expr} {d x y z : D} {ds : List D} {n m : Str} {k j : Nat}
theorem r_lst {H : Hp} {v : V} (r : R X.K X.mg M H v (.lst ds)) : ∃ (a : Addr) (xs : List V), v = .ref a ∧ ¬ M a ∧ H a = some (.lst xs) ∧ Rs X.K X.mg M H xs ds := by unfold R at r; exact r
theorem r_tup {H : Hp} {v : V} (r : R X.K X.mg M H v (.tup ds)) : ∃ (a : Addr) (xs : List V), v = .ref a ∧ SqT X.K H a xs ∧ Rs X.K X.mg M H xs ds := by
  unfold R at r
  obtain ⟨a, xs, e, q, r⟩ := r
  refine ⟨a, xs, e, ?_, r⟩
  rcases q with ⟨_, q⟩ | q
  · exact .inl (.inl q)
  · exact .inr q
theorem later {M2 : Addr → Prop} {H H2 : Hp} (kp : ∀ a o, ¬ M a → H a = some o → ¬ M2 a ∧ H2 a = some o) {v : V} {d : D} (r : R X.K X.mg M H v d) : R X.K X.mg M2 H2 v d :=
  R.ext (fun a o n h => (kp a o n h).2) (fun a n h => by
    cases q : H a with
    | none => exact absurd q h
    | some o => exact (kp a o n q).1) _ r
theorem walks_list {H : Hp} {ad : Addr} {xs : List V} (nm : ¬ M ad) (h : H ad = some (.lst xs)) (r : Rs X.K X.mg M H xs ds) : Walks X M (Itl X.K ad) ds H := fun M2 H2 kp mt => by
  have h2 : SqL X.K H2 ad xs := .of (kp ad _ nm h).2
  have hl := r.length
  refine ⟨fun i d hd => ?_, ⟨xs, h2, Nat.le_of_eq hl⟩⟩
  obtain ⟨u, hu, ru⟩ := r.get hd
  refine ⟨⟨xs, u, h2, hu⟩, fun x H3 y => ?_⟩
  obtain ⟨rfl, y⟩ := y
  have := y xs h2
  rw [hu] at this; cases this
  exact ⟨Ext.refl _ _, later kp ru⟩
theorem walks_tup {H : Hp} {ad : Addr} {xs : List V} (h : (¬ M ad ∧ H ad = some (.tup xs)) ∨ KT X.K ad xs) (r : Rs X.K X.mg M H xs ds) : Walks X M (Itt X.K ad) ds H := fun M2 H2 kp mt => by
  have h2 : SqT X.K H2 ad xs := by
    rcases h with ⟨nm, h⟩ | h
    · exact .inl (.inl (kp ad _ nm h).2)
    · exact .inr h
  have hl := r.length
  refine ⟨fun i d hd => ?_, ⟨xs, h2, Nat.le_of_eq hl⟩⟩
  obtain ⟨u, hu, ru⟩ := r.get hd
  refine ⟨⟨xs, u, h2, hu⟩, fun x H3 y => ?_⟩
  obtain ⟨rfl, y⟩ := y
  have := y xs h2
  rw [hu] at this; cases this
  exact ⟨Ext.refl _ _, later kp ru⟩
theorem ei_list (ha : EE X M e cs a (.lst ds) cs1) : EI X M e cs tg a ds cs1 := ⟨ha.dm, _, pi_list pe_w, fun σ H Q S k => ha.k σ H _ S fun v H1 S1 x1 r1 => by
  obtain ⟨ad, xs, rfl, nm, h, r⟩ := r_lst r1
  exact ⟨ad, rfl, ⟨xs, .of h⟩, k _ H1 S1 x1 (walks_list nm h r)⟩⟩
theorem ei_tup (ha : EE X M e cs a (.tup ds) cs1) : EI X M e cs tg a ds cs1 := ⟨ha.dm, _, pi_tup pe_w, fun σ H Q S k => ha.k σ H _ S fun v H1 S1 x1 r1 => by
  unfold R at r1
  obtain ⟨ad, xs, rfl, h, r⟩ := r1
  refine ⟨ad, rfl, ⟨xs, ?_⟩, k _ H1 S1 x1 (walks_tup h r)⟩
  rcases h with ⟨_, h⟩ | h
  · exact .inl (.inl h)
  · exact .inr h⟩
/-- the signs of a text -/
def signs (s : Str) : List Str := s.cps.toList.map fun c => ⟨#[c]⟩
theorem ei_str {s : Str} (ha : EE X M e cs a (.str s) cs1) : EI X M e cs tg a ((signs s).map D.str) cs1 := ⟨ha.dm, _, pi_str pe_w, fun σ H Q S k => ha.k σ H _ S fun v H1 S1 x1 r1 => by
  simp [R] at r1
  refine ⟨s, r1, k _ H1 S1 x1 fun M2 H2 kp mt => ⟨fun i d hd => ?_, ?_⟩⟩
  · simp [signs] at hd
    obtain ⟨c, hc, rfl⟩ := hd
    have hc' : s.cps[i]? = some c := by rw [← Array.getElem?_toList]; simpa using hc
    refine ⟨(Array.getElem?_eq_some_iff.mp hc').1, fun x H3 y => ?_⟩
    obtain ⟨rfl, c', hc2, rfl⟩ := y
    rw [hc'] at hc2; cases hc2
    exact ⟨Ext.refl _ _, by simp [R]⟩
  · show s.cps.size ≤ _
    simp [signs]⟩
def ups (lo : Int) (n : Nat) : List Int := (List.range n).map fun (i : Nat) => lo + (i : Int)
theorem walks_rng {H : Hp} {lo : Int} {n : Nat} : Walks X M (Itr lo n) ((ups lo n).map D.int) H := fun M2 H2 kp mt => by
  refine ⟨fun i d hd => ?_, ?_⟩
  · have hi : i < n := by
      have := (List.getElem?_eq_some_iff.mp hd).1
      simpa [ups] using this
    have hd' : d = .int (lo + (i : Int)) := by
      simp [ups, hi] at hd
      exact hd.symm
    subst hd'
    refine ⟨hi, fun x H3 y => ?_⟩
    obtain ⟨rfl, rfl⟩ := y
    exact ⟨Ext.refl _ _, by simp [R]⟩
  · show n ≤ _
    simp [ups]
theorem ei_rng1 {i : Int} (ha : EE X M e cs a (.int i) cs1) (hm : X.mg "range" = none) (hi : -(2 ^ 62) ≤ i ∧ i < 2 ^ 62) (hg : Gl X "range" := by rfl) (hs : starEach [a] X.env = [(false, eval a X.env)] := by rfl) : EI X M e cs tg (.Call (.Name "range" p) [a] [] pos) ((ups 0 i.toNat).map D.int) cs1 :=
  ⟨ha.dm, _, pi_range1 hg hm (pa_cons pe_w pa_nil (by rw [hs]; rfl)) hs, fun σ H Q S k => ha.k σ H _ S fun v H1 S1 x1 r1 => by
    simp [R] at r1
    exact ⟨i, by rw [r1], hi.1, hi.2, k _ H1 S1 x1 walks_rng⟩⟩
theorem ei_rng2 {i j : Int} (ha : EE X M e cs a (.int i) cs1) (hb : EE X M e cs1 b (.int j) cs2) (hm : X.mg "range" = none) (hi : -(2 ^ 62) ≤ i ∧ i < 2 ^ 62 ∧ -(2 ^ 62) ≤ j ∧ j < 2 ^ 62) (hg : Gl X "range" := by rfl)
    (hs : starEach [a, b] X.env = [(false, eval a X.env), (false, eval b X.env)] := by rfl) (hs2 : starEach [b] X.env = [(false, eval b X.env)] := by rfl) : EI X M e cs tg (.Call (.Name "range" p) [a, b] [] pos) ((ups i (j - i).toNat).map D.int) cs2 :=
  ⟨hb.dm.trans ha.dm, _, pi_range2 hg hm (pa_cons pe_w (pa_cons pe_w pa_nil (by rw [hs2]; rfl)) (by rw [hs, hs2])) hs hs2, fun σ H Q S k => ha.k σ H _ S fun v H1 S1 x1 r1 => hb.k σ H1 _ S1 fun u H2 S2 x2 r2 => by
    simp [R] at r1 r2
    exact ⟨i, j, by rw [r1, r2], hi, k _ H2 S2 (x1.trans (by rw [← ha.dm]; exact x2)) walks_rng⟩⟩

/-- a marked thing, none of the told ones, is written -/
theorem Sit.upd {K : PySem.W.Frag} {mg : Str → Option Value} {σ : L2.St} {H : Hp} {p : Addr} {o : HO} (S : Sit K mg M σ H e cs) (hp : M p) (hd : p ∉ dom cs) : Sit K mg M σ (upd H p o) e cs where
  mt := fun a m => by
    by_cases h : a = p
    · subst h; rw [upd_same]; simp
    · rw [upd_ne h]; exact S.mt a m
  len := S.len
  env := fun i d q => by
    obtain ⟨v, e1, r⟩ := S.env i d q
    exact ⟨v, e1, R.ext (fun a u n h => by rw [upd_ne (fun z => n (by rw [z]; exact hp))]; exact h) (fun _ n _ => n) d r⟩
  cel := fun q hq => by
    obtain ⟨m, c⟩ := S.cel q hq
    have hne : q.1 ≠ p := fun z => hd (z ▸ List.mem_map_of_mem (f := (·.1)) hq)
    exact ⟨m, c.ext (fun a u n h => by rw [upd_ne (fun z => n (by rw [z]; exact hp))]; exact h) (fun _ n _ => n) fun u h => by rw [upd_ne hne]; exact h⟩
  nd := S.nd

/-! ### comprehensions -/
theorem wipe_get {σ : L2.St} {i : Nat} : ∀ {vs : List Nat}, (wipe σ vs)[i]? = if i ∈ vs ∧ i < σ.length then some none else σ[i]?
  | [] => by simp [wipe]
  | v :: vs => by
    unfold wipe
    by_cases h : v = i
    · subst h
      by_cases hl : v < σ.length
      · rw [List.getElem?_set_self (by rw [wipe_length]; exact hl)]; simp [hl]
      · rw [List.getElem?_eq_none (by rw [List.length_set, wipe_length]; omega), if_neg (by simp [hl]), List.getElem?_eq_none (by omega)]
    · rw [List.getElem?_set_ne h, wipe_get (vs := vs)]
      have : i ≠ v := fun e => h e.symm
      simp [this]
theorem wipe_same {σ σ' : L2.St} {vs : List Nat} (hl : σ'.length = σ.length) (h : ∀ i, i ∉ vs → σ'[i]? = σ[i]?) : wipe σ' vs = wipe σ vs := by
  apply List.ext_getElem?
  intro i
  rw [wipe_get, wipe_get, hl]
  by_cases q : i ∈ vs
  · by_cases l : i < σ.length
    · simp [q, l]
    · rw [if_neg (by simp [l]), if_neg (by simp [l]), List.getElem?_eq_none (by omega), List.getElem?_eq_none (by omega)]
  · simp [q, h i q]
def outs (keep : Nat → Bool) (out : Nat → D) (n : Nat) : List D := ((List.range n).filter keep).map out
theorem outs_yes {keep : Nat → Bool} {out : Nat → D} {n : Nat} (h : keep n = true) : outs keep out (n + 1) = outs keep out n ++ [out n] := by simp [outs, List.range_succ, List.filter_append, h]
theorem outs_no {keep : Nat → Bool} {out : Nat → D} {n : Nat} (h : keep n = false) : outs keep out (n + 1) = outs keep out n := by simp [outs, List.range_succ, List.filter_append, h]
theorem range_self : ∀ ds : List D, (List.range ds.length).map (fun i => (ds[i]?).getD .non) = ds := fun ds => by
  apply List.ext_getElem?
  intro i
  by_cases hi : i < ds.length
  · simp [hi]
  · simp [hi]
theorem outs_filter (p : D → Bool) (f : D → D) (ds : List D) : outs (fun i => p ((ds[i]?).getD .non)) (fun i => f ((ds[i]?).getD .non)) ds.length = (ds.filter p).map f := by
  have e := range_self ds
  conv => rhs; rw [← e]
  rw [List.filter_map, List.map_map]
  rfl
theorem outs_map (f : D → D) (ds : List D) : outs (fun _ => true) (fun i => f ((ds[i]?).getD .non)) ds.length = ds.map f := by
  have h := outs_filter (fun _ => true) f ds
  rw [h]
  congr 1
  exact List.filter_eq_self.mpr fun _ _ => rfl
theorem outs_len {keep : Nat → Bool} {out : Nat → D} {n : Nat} : (outs keep out n).length ≤ n := by
  unfold outs
  rw [List.length_map]
  exact Nat.le_trans (List.length_filter_le _ _) (by simp)
abbrev blkOf (X : Cx) (scope : Scope) (s : Shared) (H : Hp) (C : Addr) (cl : List (Str × Addr)) (fp : List Addr) : Cx := X.blk s H scope (compEnvC scope cl C X.env) fp
/-- the target of a comprehension: what the names hold behind it -/
structure CTg (X : Cx) (scope : Scope) (vs : List Nat) (e : DE) (tg : Expr) (ef : D → DE) (P : D → Prop) : Prop where
  k : ∃ g, (∀ (s : Shared) (H : Hp) (C : Addr) (cl : List (Str × Addr)) (fp : List Addr), PG (blkOf X scope s H C cl fp) tg g) ∧
    ∀ (M' : Addr → Prop) (cs : Cs) (σ : L2.St) (H : Hp) (x : V) (d : D) (Q : L2.St → Hp → Prop), P d → Sit X.K X.mg M' (wipe σ vs) H (wipeD e vs) cs → R X.K X.mg M' H x d → (∀ σ', wipe σ' vs = wipe σ vs → Sit X.K X.mg M' σ' H (ef d) cs → Q σ' H) → g x (wipe σ vs) H Q
theorem ctg_name {scope : Scope} {vs : List Nat} (j : Nat) (hN : X.N.Nodup) (hjv : j ∈ vs) (hj : X.N[j]? = some n := by rfl) (hx : ∀ (cl : List (Str × Addr)) (C : Addr), Loc (compEnvC scope cl C X.env).scope n := by intro _ _; first | exact .inl rfl | exact .inr rfl)
    (hf : ∀ (s : Shared) (H : Hp) (C : Addr) (cl : List (Str × Addr)) (fp : List Addr), (blkOf X scope s H C cl fp).fn n = true ∨ (blkOf X scope s H C cl fp).env.scope.names.lookup n = some .local := by intro _ _ _ _ _; first | exact .inr rfl | exact .inl rfl) :
    CTg X scope vs e (.Name n p) (fun d => (wipeD e vs).set j (some d)) (fun _ => True) := ⟨gName j, fun s H C cl fp => pg_name hN hj (hx cl C) (hf s H C cl fp), fun M' cs σ H x d Q _ S r k => by
  refine k _ (wipe_same (by simp [wipe_length]) fun i hi => ?_) (S.set j r)
  have hji : j ≠ i := fun q => hi (q ▸ hjv)
  rw [List.getElem?_set_ne hji, wipe_get]
  simp [hi]⟩
/-- for a, b in ..: pairs -/
theorem ctg_pair {scope : Scope} {vs : List Nat} {n2 : Str} {p2 p3 : Pos} {k0} (i j : Nat) (hN : X.N.Nodup) (hiv : i ∈ vs) (hjv : j ∈ vs) (hi : X.N[i]? = some n := by rfl) (hj : X.N[j]? = some n2 := by rfl) (hx : ∀ (cl : List (Str × Addr)) (C : Addr), Loc (compEnvC scope cl C X.env).scope n := by intro _ _; first | exact .inl rfl | exact .inr rfl)
    (hx2 : ∀ (cl : List (Str × Addr)) (C : Addr), Loc (compEnvC scope cl C X.env).scope n2 := by intro _ _; first | exact .inl rfl | exact .inr rfl)
    (hf : ∀ (s : Shared) (H : Hp) (C : Addr) (cl : List (Str × Addr)) (fp : List Addr), (blkOf X scope s H C cl fp).fn n = true ∨ (blkOf X scope s H C cl fp).env.scope.names.lookup n = some .local := by intro _ _ _ _ _; first | exact .inr rfl | exact .inl rfl)
    (hf2 : ∀ (s : Shared) (H : Hp) (C : Addr) (cl : List (Str × Addr)) (fp : List Addr), (blkOf X scope s H C cl fp).fn n2 = true ∨ (blkOf X scope s H C cl fp).env.scope.names.lookup n2 = some .local := by intro _ _ _ _ _; first | exact .inr rfl | exact .inl rfl) (hc : X.calm = true := by rfl)
    (h1 : ∀ E : Env, (assignEach [.Name n p, .Name n2 p2] E).length = 2 := by intro _; rfl) (h2 : ∀ E : Env, (assignEach [.Name n p, .Name n2 p2] E).findIdx? (·.1) = none := by intro _; rfl)
    (h3 : ∀ E : Env, (assignEach [.Name n p, .Name n2 p2] E).map (·.2) = assign (.Name n p) E :: (assignEach [.Name n2 p2] E).map (·.2) := by intro _; rfl) (h4 : ∀ E : Env, (assignEach [.Name n2 p2] E).map (·.2) = assign (.Name n2 p2) E :: (assignEach [] E).map (·.2) := by intro _; rfl) :
    CTg X scope vs e (.Tuple [.Name n p, .Name n2 p2] k0 p3) (fun d => match d with | .tup [x, y] => ((wipeD e vs).set i (some x)).set j (some y) | _ => []) (fun d => ∃ x y, d = .tup [x, y]) :=
  ⟨gTup X.K 2 (gCons (gName i) (gCons (gName j) gNil)), fun s H C cl fp => pg_tup hc (pgs_cons (pg_name hN hi (hx cl C) (hf s H C cl fp)) (pgs_cons (pg_name hN hj (hx2 cl C) (hf2 s H C cl fp)) pgs_nil (h4 _)) (h3 _)) (h1 _) (h2 _), fun M' cs σ H v d Q pd S r k => by
    obtain ⟨x, y, rfl⟩ := pd
    obtain ⟨a, xs, rfl, hq, rr⟩ := r_tup r
    have hl := rr.length
    match xs, rr, hl with
    | [u, w], rr, _ =>
      unfold Rs at rr
      obtain ⟨ru, rr⟩ := rr
      unfold Rs at rr
      refine ⟨a, [u, w], rfl, hq, rfl, u, [w], rfl, w, [], rfl, rfl, ?_⟩
      refine k _ (wipe_same (by simp [wipe_length]) fun l hl => ?_) ((S.set i ru).set j rr.1)
      have h5 : j ≠ l := fun q => hl (q ▸ hjv)
      have h6 : i ≠ l := fun q => hl (q ▸ hiv)
      rw [List.getElem?_set_ne h5, List.getElem?_set_ne h6, wipe_get]
      simp [hl]⟩
/-- the elements, turn by turn -/
theorem lc_core' {scope : Scope} {own : List (Str × Nat)} {iter elt : Expr} {ifs : List Expr} {ef : D → DE} {P : D → Prop} (hi : EI X M e cs tg iter ds cs1) (ht : CTg X scope (own.map (·.2)) e tg ef P) (hP : ∀ d ∈ ds, P d) (S mid : Nat → Cs) (keep : Nat → Bool) (out : Nat → D) (hS0 : S 0 = cs1) (hSd : ∀ i, dom (S i) = dom cs1) (hmd : ∀ i, dom (mid i) = dom cs1) (hn : ds.length ≤ 100000)
    (tt : TT) (htt : ∀ (s : Shared) (H : Hp) (C : Addr) (cl : List (Str × Addr)) (fp : List Addr), PTs (blkOf X scope s H C cl fp) ifs tt)
    (turnT : ∀ (i : Nat) (d : D), ds[i]? = some d → ∀ (M' : Addr → Prop), (∀ a, M a → M' a) → ∀ (σ : L2.St) (H : Hp) (Q : Bool → Hp → Prop), Sit X.K X.mg M' σ H (ef d) (S i) → (∀ H', Sit X.K X.mg M' σ H' (ef d) (mid i) → Ext (dom cs1) H H' → Q (keep i) H') → tt σ H Q)
    (turnE : ∀ (i : Nat) (d : D), ds[i]? = some d → keep i = true → ∀ (M' : Addr → Prop), (∀ a, M a → M' a) → ∀ (s : Shared) (H : Hp) (C : Addr) (cl : List (Str × Addr)) (fp : List Addr), EE (blkOf X scope s H C cl fp) M' (ef d) (mid i) elt (out i) (S (i + 1)))
    (turnN : ∀ (i : Nat) (d : D), ds[i]? = some d → keep i = false → S (i + 1) = mid i)
    (hc : X.calm = true) (hN : X.N.Nodup) (ok : BlkOk X.N X.env.scope scope own) (hs : ∀ x, foldedSetIterable iter X.env x = pure x) :
    ∃ t, PE X (.ListComp elt [⟨tg, iter, ifs, 0⟩] scope pos) t ∧ (∀ (σ : L2.St) (H : Hp) (Q : VK), Sit X.K X.mg M σ H e cs → (∀ v H', Sit X.K X.mg M σ H' e (S ds.length) → Ext (dom cs) H H' → R X.K X.mg M H' v (.lst (outs keep out ds.length)) → Q v H') → t σ H Q) ∧
      ∀ (y : Str) (py spos : Pos) (i : Nat) , X.N[i]? = some y → X.env.scope.names.lookup y = some .local → swapsWith (.ListComp elt [⟨tg, iter, ifs, 0⟩] scope pos) (some (.Name y py)) spos.line X.env = pure true →
        PS X (.Assign [.Name y py] (.ListComp elt [⟨tg, iter, ifs, 0⟩] scope pos) spos) (tAsg t (gName i)) := by
  obtain ⟨dmI, wi, hpi, ki⟩ := hi
  obtain ⟨g, hg, hgk⟩ := ht.k
  let teB : TE := fun σ H Q => ∀ (s : Shared) (H0 : Hp) (C : Addr) (cl : List (Str × Addr)) (fp : List Addr), wE (blkOf X scope s H0 C cl fp) elt σ H Q
  have heB : ∀ (s : Shared) (H : Hp) (C : Addr) (cl : List (Str × Addr)) (fp : List Addr), PE (X.blk s H scope (compEnvC scope cl C X.env) fp) elt teB := fun s H C cl fp => ⟨fun pins s1 σ H1 Q I h => h s H C cl fp pins s1 I⟩
  refine ⟨_, pe_lc (own := own) (g := g) (tt := tt) (te := teB) hc hN hpi ok hg htt heB hs, fun σ H0 Q St k => ?_, fun y py spos i h1 h2 h3 => ps_setLc hc hN h1 h2 h3 hpi ok hg htt heB hs⟩
  refine ki σ H0 _ St fun J H1 S1 x1 wk Dl hD => ?_
  let M' : Addr → Prop := fun a => M a ∨ a = Dl
  have hM : ∀ a, M a → M' a := fun a h => .inl h
  have hDo : Dl ∉ dom cs1 := fun z => by
    obtain ⟨q, hq, rfl⟩ := List.mem_map.mp z
    exact (S1.cel q hq).2.ne hD
  let Pv : Nat → Hp → Prop := fun i H => ∃ acc, H Dl = some (.lst acc) ∧ Rs X.K X.mg M' H acc (outs keep out i) ∧ Sit X.K X.mg M' (L2.wipe σ (own.map (·.2))) H (wipeD e (own.map (·.2))) (S i) ∧ Ext (dom cs1) H1 H
  have wk' : ∀ i H, Pv i H → (∀ (i : Nat) (d : D), ds[i]? = some d → J.go i H ∧ ∀ x H3, J.yld i H x H3 → Ext [] H H3 ∧ R X.K X.mg M' H3 x d) ∧ J.stop ds.length H := fun i H p => by
    obtain ⟨acc, h1, h2, h3, h4⟩ := p
    refine wk M' H (fun a o nm h => ?_) h3.mt
    have hd : a ∉ dom cs1 := fun z => by
      obtain ⟨q, hq, rfl⟩ := List.mem_map.mp z
      exact nm (S1.cel q hq).1
    exact ⟨fun z => z.elim nm fun z => ne_of_none h hD z, h4 a o h hd⟩
  refine ⟨fun i m H => m = ds.length - i ∧ i ≤ ds.length ∧ Pv i H, ⟨ds.length, by simp, Nat.zero_le _, [], upd_same, Rs.nil, ?_, Ext.new hD⟩, ?_⟩
  · rw [hS0]; exact (S1.mark hD).wipe _
  rintro i mm H ⟨rfl, hil, pv⟩
  obtain ⟨w1, w2⟩ := wk' i H pv
  obtain ⟨acc, h1, h2, h3, h4⟩ := pv
  by_cases hlt : i < ds.length
  · obtain ⟨d, hd⟩ : ∃ d, ds[i]? = some d := ⟨_, List.getElem?_eq_getElem hlt⟩
    obtain ⟨g1, g2⟩ := w1 i d hd
    refine .inr ⟨g1, Pv (i + 1), fun H' p' => ⟨ds.length - (i + 1), by omega, rfl, hlt, p'⟩, fun x H3 y => ?_⟩
    obtain ⟨x3, r3⟩ := g2 x H3 y
    have S3 := h3.ex x3
    refine hgk M' (S i) σ H3 x d _ (hP d (List.mem_of_getElem? hd)) S3 r3 fun σ' hσ S4 => ⟨hσ, turnT i d hd M' hM σ' H3 _ S4 fun H4 S5 x5 => ?_⟩
    have hacc3 : H3 Dl = some (.lst acc) := x3 Dl _ h1 (by simp)
    have hacc4 : H4 Dl = some (.lst acc) := x5 Dl _ hacc3 hDo
    have h24 : Rs X.K X.mg M' H4 acc (outs keep out i) := by
      have q := Rs.ext (M' := M') (fun a o _ h => x3 a o h (by simp)) (fun _ n _ => n) _ h2
      exact S4.rs (by rw [hSd i]; exact x5) q
    have x4 : Ext (dom cs1) H1 H4 := (h4.trans (x3.mono (by simp))).trans x5
    have Sw : Sit X.K X.mg M' (L2.wipe σ (own.map (·.2))) H4 (wipeD e (own.map (·.2))) (mid i) := by
      exact S3.step (by rw [hmd i, hSd i]) (by rw [hSd i]; exact x5) S5.mt S5.cel
    cases hk : keep i with
    | true =>
      rw [if_pos rfl]
      intro s0 H0' C cl fp
      refine (turnE i d hd hk M' hM s0 H0' C cl fp).k σ' H4 _ S5 fun v H5 S6 x6 r6 => ?_
      rw [hmd i] at x6
      have hacc5 : H5 Dl = some (.lst acc) := x6 Dl _ hacc4 hDo
      have hl : acc.length ≤ i := by rw [h24.length]; exact outs_len
      have h25 : Rs X.K X.mg M' H5 acc (outs keep out i) := S5.rs (by rw [hmd i]; exact x6) h24
      have Sw5 : Sit X.K X.mg M' (L2.wipe σ (own.map (·.2))) H5 (wipeD e (own.map (·.2))) (S (i + 1)) := Sw.step (by rw [hmd i, hSd (i + 1)]) (by rw [hmd i]; exact x6) S6.mt S6.cel
      refine ⟨acc, hacc5, Nat.lt_of_le_of_lt hl (Nat.lt_of_lt_of_le hlt (Nat.le_trans hn (by decide))), acc ++ [v], upd_same, ?_, Sw5.upd (.inr rfl) (by rw [hSd]; exact hDo), fun a o h n => ?_⟩
      · rw [outs_yes hk]
        exact Rs.ext (M' := M') (fun a o nm h => by rw [upd_ne (fun z => nm (.inr z))]; exact h) (fun _ n _ => n) _ (h25.append (.cons r6 .nil))
      · rw [upd_ne (ne_of_none h hD)]
        exact x6 a o (x4 a o h n) n
    | false =>
      rw [if_neg (by simp)]
      refine ⟨acc, hacc4, by rw [outs_no hk]; exact h24, ?_, x4⟩
      rw [turnN i d hd hk]; exact Sw
  · have e0 : i = ds.length := by omega
    subst e0
    refine .inl ⟨w2, k _ H ?_ (x1.trans (by rw [← dmI]; exact h4)) ?_⟩
    · exact S1.step (hSd _) h4 (fun a m => h3.mt a (.inl m)) fun q hq => ⟨(by
        have hq' : q.1 ∈ dom cs1 := by rw [← hSd ds.length]; exact List.mem_map_of_mem (f := (·.1)) hq
        obtain ⟨q0, h0, e0⟩ := List.mem_map.mp hq'
        have := (S1.cel q0 h0).1
        rwa [e0] at this), (h3.cel q hq).2.ext (fun a o _ h => h) (fun a n _ z => n (.inl z)) fun o h => h⟩
    · unfold R
      exact ⟨Dl, acc, rfl, new_m S1.mt hD, h1, Rs.ext (fun a o _ h => h) (fun a n _ z => n (.inl z)) _ h2⟩
/-- [elt for tg in iter], each element on its own -/
theorem e_lc {scope : Scope} (own : List (Str × Nat)) {iter elt : Expr} {ef : D → DE} {P : D → Prop} (f : D → D) (hi : EI X M e cs tg iter ds cs1) (ht : CTg X scope (own.map (·.2)) e tg ef P) (hP : ∀ d ∈ ds, P d) (hn : ds.length ≤ 100000)
    (turn : ∀ d ∈ ds, ∀ (M' : Addr → Prop), (∀ a, M a → M' a) → ∀ (s : Shared) (H : Hp) (C : Addr) (cl : List (Str × Addr)) (fp : List Addr), EE (blkOf X scope s H C cl fp) M' (ef d) cs1 elt (f d) cs1)
    (ok : BlkOk X.N X.env.scope scope own) (hN : X.N.Nodup) (hc : X.calm = true := by rfl) (hs : ∀ x, foldedSetIterable iter X.env x = pure x := by intro _; rfl) :
    EE X M e cs (.ListComp elt [⟨tg, iter, [], 0⟩] scope pos) (.lst (ds.map f)) cs1 where
  dm := hi.dm
  k := fun σ H Q S k => by
    have out : ∀ (i : Nat) (d : D), ds[i]? = some d → f ((ds[i]?).getD .non) = f d := fun i d h => by rw [h]; rfl
    obtain ⟨t, h1, h2, _⟩ := lc_core' (pos := pos) (elt := elt) (ifs := []) hi ht hP (fun _ => cs1) (fun _ => cs1) (fun _ => true) (fun i => f ((ds[i]?).getD .non)) rfl (fun _ => rfl) (fun _ => rfl) hn tYes (fun _ _ _ _ _ => pts_nil) (fun i d hd M' hM σ H Q S k => k H S (Ext.refl _ _))
      (fun i d hd _ M' hM s H C cl fp => by rw [out i d hd]; exact turn d (List.mem_of_getElem? hd) M' hM s H C cl fp) (fun i d hd h => by cases h) hc hN ok hs
    refine we_of h1 (h2 σ H Q S fun v H' S' x' r' => k v H' S' x' ?_)
    rw [outs_map] at r'
    exact r'
/-- [elt for tg in iter if c], test and element on their own -/
theorem e_lcF {scope : Scope} (own : List (Str × Nat)) {iter elt c : Expr} {ef : D → DE} {P : D → Prop} (q : D → Bool) (f : D → D) (hi : EI X M e cs tg iter ds cs1) (ht : CTg X scope (own.map (·.2)) e tg ef P) (hP : ∀ d ∈ ds, P d) (hn : ds.length ≤ 100000)
    (test : ∀ d ∈ ds, ∀ (M' : Addr → Prop), (∀ a, M a → M' a) → ∀ (s : Shared) (H : Hp) (C : Addr) (cl : List (Str × Addr)) (fp : List Addr), ET (blkOf X scope s H C cl fp) M' (ef d) cs1 c (q d) cs1)
    (turn : ∀ d ∈ ds, q d = true → ∀ (M' : Addr → Prop), (∀ a, M a → M' a) → ∀ (s : Shared) (H : Hp) (C : Addr) (cl : List (Str × Addr)) (fp : List Addr), EE (blkOf X scope s H C cl fp) M' (ef d) cs1 elt (f d) cs1)
    (ok : BlkOk X.N X.env.scope scope own) (hN : X.N.Nodup) (hc : X.calm = true := by rfl) (hs : ∀ x, foldedSetIterable iter X.env x = pure x := by intro _; rfl) :
    EE X M e cs (.ListComp elt [⟨tg, iter, [c], 0⟩] scope pos) (.lst ((ds.filter q).map f)) cs1 where
  dm := hi.dm
  k := fun σ H Q S k => by
    have out : ∀ (i : Nat) (d : D), ds[i]? = some d → (ds[i]?).getD .non = d := fun i d h => by rw [h]; rfl
    obtain ⟨t, h1, h2, _⟩ := lc_core' (pos := pos) (elt := elt) (ifs := [c]) hi ht hP (fun _ => cs1) (fun _ => cs1) (fun i => q ((ds[i]?).getD .non)) (fun i => f ((ds[i]?).getD .non)) rfl (fun _ => rfl) (fun _ => rfl) hn
      (fun σ H Q => ∀ (s : Shared) (H0 : Hp) (C : Addr) (cl : List (Str × Addr)) (fp : List Addr), wT (blkOf X scope s H0 C cl fp) c σ H Q) (fun s H C cl fp => pts_one ⟨fun pins s1 σ H1 Q I h => h s H C cl fp pins s1 I⟩)
      (fun i d hd M' hM σ H Q S k s0 H0 C cl fp => by
        rw [out i d hd] at k
        exact (test d (List.mem_of_getElem? hd) M' hM s0 H0 C cl fp).k σ H Q S k)
      (fun i d hd hk M' hM s H C cl fp => by
        rw [out i d hd] at hk ⊢
        exact turn d (List.mem_of_getElem? hd) hk M' hM s H C cl fp) (fun i d hd h => rfl) hc hN ok hs
    refine we_of h1 (h2 σ H Q S fun v H' S' x' r' => k v H' S' x' ?_)
    rw [outs_filter] at r'
    exact r'
end
end Od

set_option Elab.async false
set_option linter.all false
set_option maxRecDepth 100000
set_option maxHeartbeats 4000000
namespace Od
open PySem L2

/-! ### statements: P is wanted wherever the data stand so, behind the heaps of fr (each with what may change of it) -/
abbrev Frs := List (List Addr × Hp)
def Fr (fr : Frs) (H : Hp) : Prop := ∀ q ∈ fr, Ext q.1 q.2 H
def Lo (fr : Frs) (cs : Cs) : Prop := ∀ q ∈ fr, ∀ a ∈ dom cs, a ∈ q.1 ∨ q.2 a = none
def At (X : Cx) (M : Addr → Prop) (e : DE) (cs : Cs) (fr : Frs) (P : L2.St → Hp → Prop) : Prop :=
  ∀ σ H, Sit X.K X.mg M σ H e cs → Fr fr H → Lo fr cs → P σ H
section
variable {X : Cx} {M : Addr → Prop} {e e1 : DE} {cs cs1 cs2 : Cs} {fr : Frs} {D0 : Ends} {pos p pos' : Pos} {a b c ex : Expr} {rest st st2 : List Stmt} {d x y z : D} {ds : List D} {n : Str}
theorem ext_on {H H' : Hp} (x : Fr fr H) (l : Lo fr cs) (y : Ext (dom cs) H H') : Fr fr H' := fun f hf a o h n => y a o (x f hf a o h n) fun z => by
  rcases l f hf a z with q | q
  · exact n q
  · rw [h] at q; cases q
theorem lo_of (l : Lo fr cs) (h : dom cs1 = dom cs) : Lo fr cs1 := fun f hf a ha => l f hf a (by rw [← h]; exact ha)
theorem at_nil (h : At X M e cs fr D0.nx) : At X M e cs fr (wSs X [] D0) := fun σ H S x l => wss_of pss_nil (h σ H S x l)
theorem at_set (i : Nat) (ha : EE X M e cs ex d cs1) (k : At X M (e.set i (some d)) cs1 fr (wSs X rest D0)) (hN : X.N.Nodup) (hi : X.N[i]? = some n := by rfl) (hx : Loc X.env.scope n := by first | exact .inl rfl | exact .inr rfl)
    (hs : swapsWith ex (some (.Name n pos')) pos.line X.env = pure false := by rfl) (hf : X.fn n = true ∨ X.env.scope.names.lookup n = some .local := by first | exact .inl rfl | exact .inr rfl) : At X M e cs fr (wSs X (.Assign [.Name n pos'] ex pos :: rest) D0) := fun σ H S x l =>
  wss_of (pss_cons (ps_set hN hi hx pe_w hs hf) pss_w) (ha.k σ H _ S fun v H1 S1 x1 r1 => k _ H1 (S1.set i r1) (ext_on x l x1) (lo_of l ha.dm))
/-- a, b = x, y -/
theorem at_par {px py pt pt2 : Pos} {m : Str} {kt k2} (i j : Nat) (ha : EE X M e cs a x cs1) (hb : EE X M e cs1 b y cs2) (k : At X M ((e.set i (some x)).set j (some y)) cs2 fr (wSs X rest D0)) (hN : X.N.Nodup)
    (ps : ∀ ta, PA X [a, b] ta → PS X (.Assign [.Tuple [.Name n px, .Name m py] kt pt] (.Tuple [a, b] k2 pt2) pos) (tPar i j ta)) (hst : starEach [a, b] X.env = (false, eval a X.env) :: starEach [b] X.env := by rfl) (hst2 : starEach [b] X.env = (false, eval b X.env) :: starEach [] X.env := by rfl) :
    At X M e cs fr (wSs X (.Assign [.Tuple [.Name n px, .Name m py] kt pt] (.Tuple [a, b] k2 pt2) pos :: rest) D0) := fun σ H S x l => by
  have hab : EA X M e cs [a, b] [_, _] cs2 := a_cons ha (a_cons hb a_nil hst2) hst
  refine wss_of (pss_cons (ps _ pa_w) pss_w) (hab.k σ H _ S fun vs H1 S1 x1 r1 => ?_)
  match vs, r1 with
  | [v, w], r1 =>
    unfold Rs at r1
    obtain ⟨rv, r1⟩ := r1
    unfold Rs at r1
    exact ⟨v, w, rfl, k _ H1 ((S1.set i rv).set j r1.1) (ext_on x l x1) (lo_of l hab.dm)⟩
/-- a, b = t, a tuple of two -/
theorem at_unp2 {px py pt : Pos} {m : Str} {kt} (i j : Nat) (ha : EE X M e cs ex (.tup [x, y]) cs1) (k : At X M ((e.set i (some x)).set j (some y)) cs1 fr (wSs X rest D0)) (hN : X.N.Nodup) (hi : X.N[i]? = some n := by rfl) (hj : X.N[j]? = some m := by rfl)
    (hx : Loc X.env.scope n := by first | exact .inl rfl | exact .inr rfl) (hx2 : Loc X.env.scope m := by first | exact .inl rfl | exact .inr rfl) (hf : X.fn n = true ∨ X.env.scope.names.lookup n = some .local := by first | exact .inl rfl | exact .inr rfl) (hf2 : X.fn m = true ∨ X.env.scope.names.lookup m = some .local := by first | exact .inl rfl | exact .inr rfl) (hc : X.calm = true := by rfl)
    (hs : swapsWithSole [.Tuple [.Name n px, .Name m py] kt pt] ex pos.line X.env = pure false := by rfl) (hw : swappedStores [.Tuple [.Name n px, .Name m py] kt pt] ex X.env = pure none := by rfl)
    (h0 : (assignEach [.Tuple [.Name n px, .Name m py] kt pt] X.env).map (·.2) = [assign (.Tuple [.Name n px, .Name m py] kt pt) X.env] := by rfl)
    (h1 : ∀ E : Env, (assignEach [.Name n px, .Name m py] E).length = 2 := by intro _; rfl) (h2 : ∀ E : Env, (assignEach [.Name n px, .Name m py] E).findIdx? (·.1) = none := by intro _; rfl)
    (h3 : ∀ E : Env, (assignEach [.Name n px, .Name m py] E).map (·.2) = assign (.Name n px) E :: (assignEach [.Name m py] E).map (·.2) := by intro _; rfl) (h4 : ∀ E : Env, (assignEach [.Name m py] E).map (·.2) = assign (.Name m py) E :: (assignEach [] E).map (·.2) := by intro _; rfl) :
    At X M e cs fr (wSs X (.Assign [.Tuple [.Name n px, .Name m py] kt pt] ex pos :: rest) D0) := fun σ H S x l =>
  wss_of (pss_cons (ps_asg pe_w (pg_tup hc (pgs_cons (pg_name hN hi hx hf) (pgs_cons (pg_name hN hj hx2 hf2) pgs_nil (h4 _)) (h3 _)) (h1 _) (h2 _)) hs hw h0) pss_w) (ha.k σ H _ S fun v H1 S1 x1 r1 => by
    obtain ⟨ad, xs, rfl, hq, rr⟩ := r_tup r1
    have hl := rr.length
    match xs, rr, hl with
    | [u, w], rr, _ =>
      unfold Rs at rr
      obtain ⟨ru, rr⟩ := rr
      unfold Rs at rr
      exact ⟨ad, [u, w], rfl, hq, rfl, u, [w], rfl, w, [], rfl, rfl, k _ H1 ((S1.set i ru).set j rr.1) (ext_on x l x1) (lo_of l ha.dm)⟩)
theorem at_expr (ha : EE X M e cs ex d cs1) (k : At X M e cs1 fr (wSs X rest D0)) (hs : swapsWith ex none pos.line X.env = pure false := by rfl) : At X M e cs fr (wSs X (.Expr ex pos :: rest) D0) := fun σ H S x l =>
  wss_of (pss_cons (ps_expr pe_w hs) pss_w) (ha.k σ H _ S fun v H1 S1 x1 r1 => k _ H1 S1 (ext_on x l x1) (lo_of l ha.dm))
theorem at_ret (ha : EE X M e cs ex d cs1) (k : ∀ σ H v, Sit X.K X.mg M σ H e cs1 → Fr fr H → R X.K X.mg M H v d → D0.rt v H) : At X M e cs fr (wSs X (.Return (some ex) pos :: rest) D0) := fun σ H S x l =>
  wss_of (pss_cons (ps_ret pe_w) pss_w) (ha.k σ H _ S fun v H1 S1 x1 r1 => k σ H1 v S1 (ext_on x l x1) r1)
theorem at_if {b0 : Bool} (hc : ET X M e cs c b0 cs1) (ht : b0 = true → At X M e cs1 fr (wSs X st { D0 with nx := wSs X rest D0 })) (hf : b0 = false → At X M e cs1 fr (wSs X st2 { D0 with nx := wSs X rest D0 })) : At X M e cs fr (wSs X (.If c st st2 pos :: rest) D0) := fun σ H S x l =>
  wss_of (pss_cons (ps_if pt_w pss_w pss_w) pss_w) (hc.k σ H _ S fun H1 S1 x1 => by
    cases b0 with
    | true => rw [if_pos rfl]; exact ht rfl _ H1 S1 (ext_on x l x1) (lo_of l hc.dm)
    | false => rw [if_neg (by simp)]; exact hf rfl _ H1 S1 (ext_on x l x1) (lo_of l hc.dm))
theorem at_pass (k : At X M e cs fr (wSs X rest D0)) : At X M e cs fr (wSs X (.Pass pos :: rest) D0) := fun σ H S x l => wss_of (pss_cons ps_pass pss_w) (k σ H S x l)
theorem at_break (k : At X M e cs fr D0.bk) : At X M e cs fr (wSs X (.Break pos :: rest) D0) := fun σ H S x l => wss_of (pss_cons ps_break pss_w) (k σ H S x l)
theorem at_cont (k : At X M e cs fr D0.ct) : At X M e cs fr (wSs X (.Continue pos :: rest) D0) := fun σ H S x l => wss_of (pss_cons ps_continue pss_w) (k σ H S x l)
/-- what holds between two turns: for some ghost value -/
def Inv' (X : Cx) (M : Addr → Prop) (fr : Frs) {α : Type} (P : α → Prop) (E : α → DE) (C : α → Cs) : L2.St → Hp → Prop := fun σ H => ∃ g, P g ∧ Sit X.K X.mg M σ H (E g) (C g) ∧ Fr fr H
/-- the target of a loop -/
structure LTg (X : Cx) (tg : Expr) (ef : DE → D → DE) (P : D → Prop) : Prop where
  k : ∃ g, PG X tg g ∧ ∀ (M : Addr → Prop) (e : DE) (cs : Cs) (σ : L2.St) (H : Hp) (x : V) (d : D) (Q : L2.St → Hp → Prop), P d → Sit X.K X.mg M σ H e cs → R X.K X.mg M H x d → (∀ σ', Sit X.K X.mg M σ' H (ef e d) cs → Q σ' H) → g x σ H Q
theorem ltg_name (j : Nat) (hN : X.N.Nodup) (hj : X.N[j]? = some n := by rfl) (hx : Loc X.env.scope n := by first | exact .inl rfl | exact .inr rfl) (hf : X.fn n = true ∨ X.env.scope.names.lookup n = some .local := by first | exact .inl rfl | exact .inr rfl) :
    LTg X (.Name n p) (fun e d => e.set j (some d)) (fun _ => True) := ⟨gName j, pg_name hN hj hx hf, fun M e cs σ H x d Q _ S r k => k _ (S.set j r)⟩
theorem ltg_pair {px py pt : Pos} {m : Str} {kt} (i j : Nat) (hN : X.N.Nodup) (hi : X.N[i]? = some n := by rfl) (hj : X.N[j]? = some m := by rfl)
    (hx : Loc X.env.scope n := by first | exact .inl rfl | exact .inr rfl) (hx2 : Loc X.env.scope m := by first | exact .inl rfl | exact .inr rfl) (hf : X.fn n = true ∨ X.env.scope.names.lookup n = some .local := by first | exact .inl rfl | exact .inr rfl) (hf2 : X.fn m = true ∨ X.env.scope.names.lookup m = some .local := by first | exact .inl rfl | exact .inr rfl) (hc : X.calm = true := by rfl)
    (h1 : ∀ E : Env, (assignEach [.Name n px, .Name m py] E).length = 2 := by intro _; rfl) (h2 : ∀ E : Env, (assignEach [.Name n px, .Name m py] E).findIdx? (·.1) = none := by intro _; rfl)
    (h3 : ∀ E : Env, (assignEach [.Name n px, .Name m py] E).map (·.2) = assign (.Name n px) E :: (assignEach [.Name m py] E).map (·.2) := by intro _; rfl) (h4 : ∀ E : Env, (assignEach [.Name m py] E).map (·.2) = assign (.Name m py) E :: (assignEach [] E).map (·.2) := by intro _; rfl) :
    LTg X (.Tuple [.Name n px, .Name m py] kt pt) (fun e d => match d with | .tup [x, y] => (e.set i (some x)).set j (some y) | _ => e) (fun d => ∃ x y, d = .tup [x, y]) :=
  ⟨_, pg_tup hc (pgs_cons (pg_name hN hi hx hf) (pgs_cons (pg_name hN hj hx2 hf2) pgs_nil (h4 _)) (h3 _)) (h1 _) (h2 _), fun M e cs σ H v d Q pd S r k => by
    obtain ⟨x, y, rfl⟩ := pd
    obtain ⟨ad, xs, rfl, hq, rr⟩ := r_tup r
    have hl := rr.length
    match xs, rr, hl with
    | [u, w], rr, _ =>
      unfold Rs at rr
      obtain ⟨ru, rr⟩ := rr
      unfold Rs at rr
      exact ⟨ad, [u, w], rfl, hq, rfl, u, [w], rfl, w, [], rfl, rfl, k _ ((S.set i ru).set j rr.1)⟩⟩
/-- for tg in iter -/
theorem at_for {tg iter : Expr} {body : List Stmt} {ef : DE → D → DE} {Pd : D → Prop} {α : Nat → Type} (P : (i : Nat) → α i → Prop) (E : (i : Nat) → α i → DE) (C : (i : Nat) → α i → Cs) (hi : EI X M e cs tg iter ds cs1) (ht : LTg X tg ef Pd) (hP : ∀ d ∈ ds, Pd d) (g0 : α 0) (p0 : P 0 g0) (e0 : E 0 g0 = e) (c0 : C 0 g0 = cs1)
    (hdm : ∀ i g, P i g → dom (C i g) = dom cs1)
    (turn : ∀ (i : Nat) (d : D) (g : α i) (H1 : Hp), ds[i]? = some d → P i g → At X M (ef (E i g) d) (C i g) ((dom cs1, H1) :: fr) (wSs X body { D0 with nx := Inv' X M ((dom cs1, H1) :: fr) (P (i + 1)) (E (i + 1)) (C (i + 1)), ct := Inv' X M ((dom cs1, H1) :: fr) (P (i + 1)) (E (i + 1)) (C (i + 1)), bk := wSs X rest D0 }))
    (k : ∀ g, P ds.length g → At X M (E ds.length g) (C ds.length g) fr (wSs X rest D0)) (hc : X.calm = true := by rfl) (hp : PassesOwn (model X.prog X.w) X.A X.env X.xe := by first | exact PassesOwn.never | exact passes_of rfl) (hs : ∀ x, foldedSetIterable iter X.env x = pure x := by intro _; rfl) :
    At X M e cs fr (wSs X (.For tg iter body [] pos :: rest) D0) := fun σ H S x l => by
  obtain ⟨dmI, wi, hpi, ki⟩ := hi
  obtain ⟨g, hg, hgk⟩ := ht.k
  refine wss_of (pss_cons (ps_for hp hc hpi hg pss_w hs) pss_w) (ki σ H _ S fun J H1 S1 x1 wk => ?_)
  have lx : Lo fr cs1 := lo_of l dmI
  have kx : Fr fr H1 := ext_on x l x1
  have ly : Lo ((dom cs1, H1) :: fr) cs1 := fun f hf a ha => by
    rcases List.mem_cons.mp hf with rfl | hf
    · exact .inl ha
    · exact lx f hf a ha
  refine ⟨fun i m σ H => m = ds.length - i ∧ i ≤ ds.length ∧ Inv' X M ((dom cs1, H1) :: fr) (P i) (E i) (C i) σ H, ⟨ds.length, by simp, Nat.zero_le _, g0, p0, by rw [e0, c0]; exact S1, fun f hf => ?_⟩, ?_⟩
  · rcases List.mem_cons.mp hf with rfl | hf
    · exact Ext.refl _ _
    · exact kx f hf
  rintro i m σ2 H2 ⟨rfl, hil, gi, pg, S2, x2⟩
  have x3 : Ext (dom cs1) H1 H2 := x2 _ List.mem_cons_self
  obtain ⟨w1, w2⟩ := wk M H2 (fun a o nm h => ⟨nm, S1.keeps x3 a o nm h⟩) S2.mt
  have ly2 := lo_of ly (hdm _ _ pg)
  by_cases hlt : i < ds.length
  · obtain ⟨d, hd⟩ : ∃ d, ds[i]? = some d := ⟨_, List.getElem?_eq_getElem hlt⟩
    obtain ⟨q1, q2⟩ := w1 i d hd
    refine .inr ⟨q1, Inv' X M ((dom cs1, H1) :: fr) (P (i + 1)) (E (i + 1)) (C (i + 1)), fun σ' H' p' => ⟨ds.length - (i + 1), by omega, rfl, hlt, p'⟩, fun x H3 y => ?_⟩
    obtain ⟨x4, r4⟩ := q2 x H3 y
    have S3 := S2.ex x4
    exact hgk M _ _ σ2 H3 x d _ (hP d (List.mem_of_getElem? hd)) S3 r4 fun σ' S4 => turn i d gi H1 hd pg σ' H3 S4 (ext_on x2 ly2 (x4.mono (by simp))) ly2
  · have e9 : i = ds.length := by omega
    subst e9
    exact .inl ⟨w2, k gi pg σ2 H2 S2 (fun f hf => x2 f (List.mem_cons_of_mem _ hf)) (lo_of lx (hdm _ _ pg))⟩
theorem at_weak {f : List Addr × Hp} {P : L2.St → Hp → Prop} (h : At X M e cs fr P) : At X M e cs (f :: fr) P := fun σ H S x l => h σ H S (fun q hq => x q (List.mem_cons_of_mem _ hq)) fun q hq => l q (List.mem_cons_of_mem _ hq)
theorem at_inv {α : Type} {P : α → Prop} {E : α → DE} {C : α → Cs} (g : α) (pg : P g) (he : E g = e) (hc : C g = cs) : At X M e cs fr (Inv' X M fr P E C) := fun σ H S x l => ⟨g, pg, by rw [he, hc]; exact S, x⟩
/-- o.f = value, o an instance that may change -/
theorem at_fld {ad C : Addr} {cn m : Str} {ns : List Str} {o : Expr} {cs' : Cs} (hv : EE X M e cs ex d cs1) (ho : EE X M e cs1 a (.ref ad) cs1) (hm : X.mg cn = some (.ref C)) (hcl : Cls X.K C) (hn : NoAttr X.K C m) (hlen : ns.length < 900) (hin : (ad, MC.obj cn ns ds) ∈ cs1)
    {ns' : List Str} {ds' : List D} (hu : Upd1 ad (.obj cn ns ds) (.obj cn ns' ds') cs1 cs2) (hput : ∀ (x : V) (xs : List V), xs.length = ns.length → ∃ xs', putF m x (ns.zip xs) = ns'.zip xs' ∧ ns'.length = xs'.length ∧ ∀ (H : Hp), R X.K X.mg M H x d → Rs X.K X.mg M H xs ds → Rs X.K X.mg M H xs' ds')
    (k : At X M e cs2 fr (wSs X rest D0)) (hs : swapsWith ex (some (.Attribute a m pos')) pos.line X.env = pure false := by rfl) : At X M e cs fr (wSs X (.Assign [.Attribute a m pos'] ex pos :: rest) D0) := fun σ H S x l =>
  wss_of (pss_cons (ps_fld pe_w pe_w hs) pss_w) (hv.k σ H _ S fun v H1 S1 x1 r1 => ho.k σ H1 _ S1 fun w H2 S2 x2 r2 => by
    simp [R] at r2
    subst r2
    obtain ⟨mm, C', dx, xs, hm', h3, hl, rs⟩ := S2.cel _ hin
    rw [hm] at hm'; cases hm'
    have r1' := S1.r x2 r1
    refine ⟨ad, C, dx, ns.zip xs, rfl, h3, hcl, hn, by rw [List.length_zip]; omega, ?_⟩
    obtain ⟨xs', e1, e2, rr⟩ := hput v xs hl.symm
    rw [e1]
    have hnm : ∀ b o, ¬ M b → H2 b = some o → upd H2 ad (.ins C dx (ns'.zip xs')) b = some o := fun b o nb h => by rw [upd_ne (fun z => nb (by rw [z]; exact mm))]; exact h
    refine k σ _ ⟨fun b mb => ?_, S2.len, fun i d' q => ?_, fun q hq => ?_, ?_⟩ ?_ (lo_of l (hu.dm.trans hv.dm))
    · by_cases h : b = ad
      · subst h; rw [upd_same]; simp
      · rw [upd_ne h]; exact S2.mt b mb
    · obtain ⟨u, e3, r⟩ := S2.env i d' q
      exact ⟨u, e3, R.ext hnm (fun _ n _ => n) _ r⟩
    · rcases hu.of S2.nd q hq with rfl | ⟨q1, q2⟩
      · exact ⟨mm, C, dx, xs', hm, upd_same, e2, Rs.ext hnm (fun _ n _ => n) _ (rr H2 r1' rs)⟩
      · exact ⟨(S2.cel q q1).1, (S2.cel q q1).2.ext hnm (fun _ n _ => n) fun o h => by rw [upd_ne q2]; exact h⟩
    · rw [show cs2.map (·.1) = cs1.map (·.1) from hu.dm]; exact S2.nd
    · have l1 : Lo fr cs1 := lo_of l hv.dm
      have y := ext_on (ext_on x l x1) l1 x2
      refine ext_on y l1 fun b o h n => ?_
      rw [upd_ne (fun z => n (by rw [z]; exact List.mem_map_of_mem (f := (·.1)) hin))]; exact h)
end

/-! ### a def keeps its promise -/
section
variable {P : Program} {w : World} {K : PySem.W.Frag} {mg : Str → Option Value} {base : Heap} {ι : Type} {pre : ι → Prop} {args : ι → List D} {cs cs' : ι → Cs} {res : ι → D} {x qual n : Str} {st : Stmt} {f : Addr} {fd : FuncData} {N ps : List Str} {k : Nat}
theorem sit_start {M : Addr → Prop} {H : Hp} {vs : List V} {ds : List D} {c : Cs} (mt : ∀ a, M a → H a ≠ none) (r : Rs K mg M H vs ds) (hc : ∀ p ∈ c, M p.1 ∧ Cell K mg M H p.1 p.2) (nd : (dom c).Nodup) : Sit K mg M (L2.start N vs) H (ds.map some ++ List.replicate (N.length - ds.length) none) c where
  mt := mt
  len := by unfold L2.start; simp [r.length]
  env := fun i d q => by
    have hi : i < ds.length := by
      by_cases h : i < ds.length
      · exact h
      · rw [List.getElem?_append_right (by simp; omega)] at q
        rw [List.getElem?_replicate] at q
        split at q <;> cases q
    rw [List.getElem?_append_left (by simpa using hi)] at q
    have q' : ds[i]? = some d := by
      rw [List.getElem?_map] at q
      cases hq : ds[i]? with
      | none => rw [hq] at q; cases q
      | some d' => rw [hq] at q; exact Option.some.inj q
    obtain ⟨v, hv, rv⟩ := r.get q'
    refine ⟨v, ?_, rv⟩
    unfold L2.start
    rw [List.getElem?_append_left (by simp [r.length]; exact hi)]
    simp [hv]
  cel := hc
  nd := nd
/-- what a body is shown to do -/
def Body (P : Program) (w : World) (K : PySem.W.Frag) (mg : Str → Option Value) (base : Heap) (qual : Str) (st : Stmt) (f : Addr) (N : List Str) (np : Nat) (k : Nat) {ι : Type} (pre : ι → Prop) (args : ι → List D) (cs : ι → Cs) (res : ι → D) (cs' : ι → Cs) : Prop :=
  ∀ (cdv : Value) (A : Around) (outer : List Env) (s : Shared) (H0 : Hp) (E : XK) (i : ι) (M : Addr → Prop) (Q : VK), pre i → Room k (A.deeper (PyProof.Rows.envOfC qual (defScope st) s.heap.objs.size f cdv)) →
    (∀ v H', (∀ a, M a → H' a ≠ none) → Ext (dom (cs i)) H0 H' → (∀ p ∈ cs' i, M p.1 ∧ Cell K mg M H' p.1 p.2) → R K mg M H' v (res i) → Q v H') →
    At (cxOf (L2.CX P w) P w K mg base N qual (defScope st) f cdv A outer s H0 E) M ((args i).map some ++ List.replicate (N.length - (args i).length) none) (cs i) [(dom (cs i), H0)]
      (wSs (cxOf (L2.CX P w) P w K mg base N qual (defScope st) f cdv A outer s H0 E) (defBody st) { nx := fun _ H' => Q .non H', rt := Q })
theorem fnr_of (F : Fun K x qual st f fd) (S : FnScope N ps (defScope st)) (hb : Binds K fd ps []) (hl : ∀ i, (args i).length = ps.length) (body : Body P w K mg base qual st f N ps.length k pre args cs res cs') : FnR P w K mg base (L2.CX P w) (k + 1) f (fnSp K mg pre args cs res cs') := by
  have h : FnOk P w K mg base (L2.CX P w) (k + 1) f fd ps (fnSp K mg pre args cs res cs') := F.okX S (fun vs H Q E h => by
    obtain ⟨M, i, _, _, r, _⟩ := h
    rw [r.length, hl]) fun cdv A outer s H vs Q E hr h => by
    obtain ⟨M, i, hp, mt, r, hc, nd, kq⟩ := h
    refine ⟨_, pss_w, ?_⟩
    refine body cdv A outer s H E i M Q hp hr kq _ _ (sit_start mt r hc nd) (fun q hq => ?_) fun q hq a ha => ?_
    · rcases List.mem_singleton.mp hq with rfl
      exact Ext.refl _ _
    · rcases List.mem_singleton.mp hq with rfl
      exact .inl ha
  have h2 := h.raw (ds := []) (dvs := []) hb .nil
  simpa using h2
theorem dfn_of (F : Fun K x qual st f fd) (hm : mg n = some (.ref f)) (S : FnScope N ps (defScope st)) (hb : Binds K fd ps []) (hl : ∀ i, (args i).length = ps.length) (body : Body P w K mg base qual st f N ps.length k pre args cs res cs') : Dfn P w K mg base n (k + 1) (fnSp K mg pre args cs res cs') :=
  ⟨f, hm, F.kp, fnr_of F S hb hl body⟩
/-- the end of a body -/
theorem at_done {X : Cx} {M M0 : Addr → Prop} {e : DE} {c0 c1 c2 : Cs} {H0 : Hp} {ex : Expr} {d : D} {pos : Pos} {rest : List Stmt} {D0 : Ends} {fr : Frs} {A0 : List Addr} {d' : D} (ha : EE X M e c0 ex d c1) (hfr : (A0, H0) ∈ fr) (hM : ∀ a, M0 a → M a) (hc : ∀ p ∈ c2, p ∈ c1) (hMc : ∀ p ∈ c2, M0 p.1) (hd : d = d')
    (kq : ∀ v H', (∀ a, M0 a → H' a ≠ none) → Ext A0 H0 H' → (∀ p ∈ c2, M0 p.1 ∧ Cell X.K X.mg M0 H' p.1 p.2) → R X.K X.mg M0 H' v d' → D0.rt v H') : At X M e c0 fr (wSs X (.Return (some ex) pos :: rest) D0) :=
  at_ret ha fun σ H v S x r => kq v H (fun a m => S.mt a (hM a m)) (x _ hfr) (fun p hp => ⟨hMc p hp, (S.cel p (hc p hp)).2.ext (fun a o _ h => h) (fun a n _ z => n (hM a z)) fun o h => h⟩) (hd ▸ R.ext (fun a o _ h => h) (fun a n _ z => n (hM a z)) _ r)
/-- the end of a body without things of its own -/
theorem at_end {X : Cx} {M : Addr → Prop} {e : DE} {c0 c1 : Cs} {H0 : Hp} {ex : Expr} {d : D} {pos : Pos} {rest : List Stmt} {D0 : Ends} {fr : Frs} {A0 : List Addr} {d' : D} (ha : EE X M e c0 ex d c1) (hd : d = d') (hfr : (A0, H0) ∈ fr)
    (kq : ∀ v H', (∀ a, M a → H' a ≠ none) → Ext A0 H0 H' → (∀ p ∈ c1, M p.1 ∧ Cell X.K X.mg M H' p.1 p.2) → R X.K X.mg M H' v d' → D0.rt v H') : At X M e c0 fr (wSs X (.Return (some ex) pos :: rest) D0) :=
  at_ret ha fun σ H v S x r => kq v H S.mt (x _ hfr) S.cel (hd ▸ r)
end
end Od

set_option Elab.async false
set_option linter.all false
set_option maxRecDepth 100000
set_option maxHeartbeats 4000000
namespace Od
open PySem L2

/-! ### operations on data -/
section
variable {X : Cx} {M : Addr → Prop} {H : Hp} {ds es : List D} {d x y z : D}
theorem bd_add {i j : Int} : BinD X .Add (.int i) (.int j) (.int (i + j)) := ⟨_, op_add, fun M H v u Q mt hv hu k => by
  simp only [R] at hv hu; exact ⟨i, j, hv, hu, k _ H (Ext.refl _ _) (by simp [R])⟩⟩
theorem bd_sub {i j : Int} : BinD X .Sub (.int i) (.int j) (.int (i - j)) := ⟨_, op_sub, fun M H v u Q mt hv hu k => by
  simp only [R] at hv hu; exact ⟨i, j, hv, hu, k _ H (Ext.refl _ _) (by simp [R])⟩⟩
theorem bd_mulL {i j : Int} (h : -(2 ^ 64) < i ∧ i < 2 ^ 64) : BinD X .Mult (.int i) (.int j) (.int (i * j)) := ⟨_, op_mul, fun M H v u Q mt hv hu k => by
  simp only [R] at hv hu; exact ⟨i, j, hv, hu, .inl h, k _ H (Ext.refl _ _) (by simp [R])⟩⟩
theorem bd_mulR {i j : Int} (h : -(2 ^ 64) < j ∧ j < 2 ^ 64) : BinD X .Mult (.int i) (.int j) (.int (i * j)) := ⟨_, op_mul, fun M H v u Q mt hv hu k => by
  simp only [R] at hv hu; exact ⟨i, j, hv, hu, .inr h, k _ H (Ext.refl _ _) (by simp [R])⟩⟩
theorem bd_mod {i j : Int} (h : 0 < j) : BinD X .Mod (.int i) (.int j) (.int (i % j)) := ⟨_, op_mod, fun M H v u Q mt hv hu k => by
  simp only [R] at hv hu; exact ⟨i, j, hv, hu, h, k _ H (Ext.refl _ _) (by simp [R])⟩⟩
theorem bd_div {i j : Int} (h : 0 < j ∧ j.natAbs.log2 < 9000) : BinD X .FloorDiv (.int i) (.int j) (.int (i / j)) := ⟨_, op_fdivW, fun M H v u Q mt hv hu k => by
  simp only [R] at hv hu; exact ⟨i, j, hv, hu, h, k _ H (Ext.refl _ _) (by simp [R])⟩⟩
theorem bd_pow {i j : Int} (h : 0 ≤ j ∧ j ≤ 1000000 ∧ i.natAbs < 2 ^ 64) : BinD X .Pow (.int i) (.int j) (.int (i ^ j.toNat)) := ⟨_, op_pow, fun M H v u Q mt hv hu k => by
  simp only [R] at hv hu; exact ⟨i, j, hv, hu, h, k _ H (Ext.refl _ _) (by simp [R])⟩⟩
theorem bd_addS {s t : Str} (h : s.length + t.length ≤ sizeLine) : BinD X .Add (.str s) (.str t) (.str (s ++ t)) := ⟨_, op_add_str, fun M H v u Q mt hv hu k => by
  simp only [R] at hv hu; exact ⟨s, t, hv, hu, h, k _ H (Ext.refl _ _) (by simp [R])⟩⟩
theorem bd_addL (h : ds.length + es.length ≤ 100000) : BinD X .Add (.lst ds) (.lst es) (.lst (ds ++ es)) := ⟨_, op_cat, fun M H v u Q mt hv hu k => by
  obtain ⟨a, xs, rfl, _, ha, ra⟩ := r_lst hv
  obtain ⟨b, ys, rfl, _, hb, rb⟩ := r_lst hu
  exact ⟨a, b, xs, ys, rfl, rfl, ha, hb, by rw [ra.length, rb.length]; exact Nat.le_trans h (by decide), fun p hp => k _ _ (Ext.new hp) (r_newl mt hp (ra.append rb))⟩⟩
theorem bd_addT (h : ds.length + es.length ≤ 100000) : BinD X .Add (.tup ds) (.tup es) (.tup (ds ++ es)) := ⟨_, op_catA, fun M H v u Q mt hv hu k => by
  obtain ⟨a, xs, rfl, ha, ra⟩ := r_tup hv
  obtain ⟨b, ys, rfl, hb, rb⟩ := r_tup hu
  refine ⟨a, b, xs, ys, rfl, rfl, ha, hb, by rw [ra.length, rb.length]; exact Nat.le_trans h (by decide), fun e => ?_, fun e e' => ?_, fun e e' p hp => k _ _ (Ext.new hp) (r_newt mt hp (ra.append rb))⟩
  · subst e
    have : ds = [] := List.eq_nil_of_length_eq_zero (by rw [← ra.length]; rfl)
    subst this
    exact k _ H (Ext.refl _ _) hu
  · subst e'
    have : es = [] := List.eq_nil_of_length_eq_zero (by rw [← rb.length]; rfl)
    subst this
    rw [List.append_nil] at k
    exact k _ H (Ext.refl _ _) hv⟩
theorem Rs.rep {K : PySem.W.Frag} {mg : Str → Option Value} {xs : List V} (r : Rs K mg M H xs ds) : ∀ n : Nat, Rs K mg M H (List.replicate n xs).flatten (List.replicate n ds).flatten
  | 0 => Rs.nil
  | n + 1 => by
    rw [List.replicate_succ, List.replicate_succ, List.flatten_cons, List.flatten_cons]
    exact r.append (Rs.rep r n)
theorem bd_rep {i : Int} (h : ds.length * i.toNat ≤ 100000) (hi : -(2 ^ 63) ≤ i ∧ i < 2 ^ 63) : BinD X .Mult (.lst ds) (.int i) (.lst (List.replicate i.toNat ds).flatten) := ⟨_, op_rep, fun M H v u Q mt hv hu k => by
  obtain ⟨a, xs, rfl, _, ha, ra⟩ := r_lst hv
  simp only [R] at hu
  exact ⟨a, i, xs, rfl, hu, ha, hi.1, hi.2, by rw [ra.length]; exact Nat.le_trans h (by decide), fun p hp => k _ _ (Ext.new hp) (r_newl mt hp (ra.rep _))⟩⟩
theorem ud_neg {i : Int} : UnD X .USub (.int i) (.int (-i)) := ⟨_, un_neg, fun M H v Q mt hv k => by
  simp only [R] at hv; exact ⟨i, hv, k _ H (Ext.refl _ _) (by simp [R])⟩⟩

/-! comparisons -/
theorem cd_lt {i j : Int} : CmpD X .Lt (.int i) (.int j) (decide (i < j)) := ⟨_, op_lt, fun M H v u Q mt hv hu k => by
  simp only [R] at hv hu; exact ⟨i, j, hv, hu, k _ H (Ext.refl _ _) (by simp [R])⟩⟩
theorem cd_le {i j : Int} : CmpD X .LtE (.int i) (.int j) (decide (i ≤ j)) := ⟨_, op_le, fun M H v u Q mt hv hu k => by
  simp only [R] at hv hu; exact ⟨i, j, hv, hu, k _ H (Ext.refl _ _) (by simp [R])⟩⟩
theorem cd_gt {i j : Int} : CmpD X .Gt (.int i) (.int j) (decide (j < i)) := ⟨_, op_gt, fun M H v u Q mt hv hu k => by
  simp only [R] at hv hu; exact ⟨i, j, hv, hu, k _ H (Ext.refl _ _) (by simp [R])⟩⟩
theorem cd_ge {i j : Int} : CmpD X .GtE (.int i) (.int j) (decide (j ≤ i)) := ⟨_, op_ge, fun M H v u Q mt hv hu k => by
  simp only [R] at hv hu; exact ⟨i, j, hv, hu, k _ H (Ext.refl _ _) (by simp [R])⟩⟩
theorem cd_ltS {s t : Str} : CmpD X .Lt (.str s) (.str t) (decide (s.cps.toList < t.cps.toList)) := ⟨_, op_lt_str, fun M H v u Q mt hv hu k => by
  simp only [R] at hv hu; exact ⟨s, t, hv, hu, k _ H (Ext.refl _ _) (by simp [R])⟩⟩
/-- plain values -/
def flat : D → Option V
  | .non => some .non
  | .bl b => some (.bl b)
  | .int i => some (.int i)
  | .str s => some (.str s)
  | _ => none
def flats : List D → Option (List V)
  | [] => some []
  | d :: ds => (flat d).bind fun v => (flats ds).map (v :: ·)
theorem R.flat {K : PySem.W.Frag} {mg : Str → Option Value} {v w : V} : ∀ {d : D}, Od.flat d = some w → R K mg M H v d → v = w
  | .non, h, r => by simp only [R] at r; simp [Od.flat] at h; rw [r, ← h]
  | .bl _, h, r => by simp only [R] at r; simp [Od.flat] at h; rw [r, ← h]
  | .int _, h, r => by simp only [R] at r; simp [Od.flat] at h; rw [r, ← h]
  | .str _, h, r => by simp only [R] at r; simp [Od.flat] at h; rw [r, ← h]
  | .ref _, h, r => by simp [Od.flat] at h
  | .ty _, h, r => by simp [Od.flat] at h
  | .lst _, h, r => by simp [Od.flat] at h
  | .tup _, h, r => by simp [Od.flat] at h
  | .obj _ _ _, h, r => by simp [Od.flat] at h
  | .dic _ _, h, r => by simp [Od.flat] at h
  | .scr _, h, r => by simp [Od.flat] at h
  | .lam _, h, r => by simp [Od.flat] at h
  | .exc _ _ _ _, h, r => by simp [Od.flat] at h
theorem cd_eq {v w : V} (h1 : flat x = some v) (h2 : flat y = some w) (h : scal v w = true) : CmpD X .Eq x y (decide (v = w)) := ⟨_, op_eq, fun M H v' u' Q mt hv hu k => by
  obtain rfl := hv.flat h1
  obtain rfl := hu.flat h2
  exact ⟨h, k _ H (Ext.refl _ _) (by simp [R])⟩⟩
theorem cd_ne {v w : V} (h1 : flat x = some v) (h2 : flat y = some w) (h : scal v w = true) : CmpD X .NotEq x y (!decide (v = w)) := ⟨_, op_ne, fun M H v' u' Q mt hv hu k => by
  obtain rfl := hv.flat h1
  obtain rfl := hu.flat h2
  exact ⟨h, k _ H (Ext.refl _ _) (by simp [R])⟩⟩
theorem CmpD.eq {op : CmpOp} {b c : Bool} (h : CmpD X op x y b) (e : b = c) : CmpD X op x y c := e ▸ h
theorem cd_eqI {i j : Int} : CmpD X .Eq (.int i) (.int j) (decide (i = j)) := (cd_eq rfl rfl rfl).eq (by simp)
theorem cd_eqS {s t : Str} : CmpD X .Eq (.str s) (.str t) (decide (s = t)) := (cd_eq rfl rfl rfl).eq (by simp)
theorem cd_eqB {s t : Bool} : CmpD X .Eq (.bl s) (.bl t) (s == t) := (cd_eq rfl rfl rfl).eq (by cases s <;> cases t <;> rfl)
theorem cd_neI {i j : Int} : CmpD X .NotEq (.int i) (.int j) (!decide (i = j)) := (cd_ne rfl rfl rfl).eq (by simp)
theorem cd_neS {s t : Str} : CmpD X .NotEq (.str s) (.str t) (!decide (s = t)) := (cd_ne rfl rfl rfl).eq (by simp)
theorem cd_neB {s t : Bool} : CmpD X .NotEq (.bl s) (.bl t) (s != t) := (cd_ne rfl rfl rfl).eq (by cases s <;> cases t <;> rfl)
mutual
/-- nested plain data -/
def toPy : D → Option PyData
  | .non => some .none
  | .bl b => some (.bool b)
  | .int i => some (.int i)
  | .str s => some (.str s)
  | .lst ds => (toPys ds).map .list
  | .tup ds => (toPys ds).map .tuple
  | _ => none
def toPys : List D → Option (List PyData)
  | [] => some []
  | d :: ds => (toPy d).bind fun p => (toPys ds).map (p :: ·)
end
mutual
theorem dp_of {K : PySem.W.Frag} {mg : Str → Option Value} : ∀ {d : D} {v : V} {p : PyData}, toPy d = some p → R K mg M H v d → Dp K H v p
  | .non, v, p, h, r => by simp only [R] at r; simp only [toPy, Option.some.injEq] at h; subst r h; exact .non
  | .bl _, v, p, h, r => by simp only [R] at r; simp only [toPy, Option.some.injEq] at h; subst r h; exact .bl _
  | .int _, v, p, h, r => by simp only [R] at r; simp only [toPy, Option.some.injEq] at h; subst r h; exact .int _
  | .str _, v, p, h, r => by simp only [R] at r; simp only [toPy, Option.some.injEq] at h; subst r h; exact .str _
  | .lst ds, v, p, h, r => by
    unfold R at r
    obtain ⟨a, xs, rfl, _, ha, rs⟩ := r
    unfold toPy at h
    cases q : toPys ds with
    | none => rw [q] at h; cases h
    | some ps =>
      rw [q] at h
      cases h
      exact .lst (.of ha) (dps_of q rs)
  | .tup ds, v, p, h, r => by
    unfold R at r
    obtain ⟨a, xs, rfl, ha, rs⟩ := r
    unfold toPy at h
    cases q : toPys ds with
    | none => rw [q] at h; cases h
    | some ps =>
      rw [q] at h
      cases h
      refine .tup ?_ (dps_of q rs)
      rcases ha with ⟨_, ha⟩ | ha
      · exact .inl (.inl ha)
      · exact .inr ha
  | .ref _, v, p, h, r => by simp [toPy] at h
  | .ty _, v, p, h, r => by simp [toPy] at h
  | .obj _ _ _, v, p, h, r => by simp [toPy] at h
  | .dic _ _, v, p, h, r => by simp [toPy] at h
  | .scr _, v, p, h, r => by simp [toPy] at h
  | .lam _, v, p, h, r => by simp [toPy] at h
  | .exc _ _ _ _, v, p, h, r => by simp [toPy] at h
theorem dps_of {K : PySem.W.Frag} {mg : Str → Option Value} : ∀ {ds : List D} {vs : List V} {ps : List PyData}, toPys ds = some ps → Rs K mg M H vs ds → DpAll K H vs ps
  | [], [], ps, h, r => by simp only [toPys, Option.some.injEq] at h; subst h; exact .nil
  | d :: ds, v :: vs, ps, h, r => by
    unfold Rs at r
    unfold toPys at h
    cases q1 : toPy d with
    | none => rw [q1] at h; cases h
    | some p1 =>
      rw [q1] at h
      cases q2 : toPys ds with
      | none => rw [q2] at h; cases h
      | some p2 =>
        rw [q2] at h
        cases h
        exact .cons (dp_of q1 r.1) (dps_of q2 r.2)
  | [], _ :: _, _, _, r => by unfold Rs at r; exact r.elim
  | _ :: _, [], _, _, r => by unfold Rs at r; exact r.elim
end
theorem cd_eqD {p q : PyData} (hu : X.A.units + 64 < cLine) (h1 : toPy x = some p) (h2 : toPy y = some q) (s1 : SeqAt.shaped p = true) (s2 : SeqAt.shaped q = true) : CmpD X .Eq x y (PyData.eqv p q) := ⟨_, op_eqD hu, fun M H v u Q mt hv hu k => ⟨p, q, dp_of h1 hv, dp_of h2 hu, s1, s2, k _ H (Ext.refl _ _) (by simp [R])⟩⟩
theorem cd_neD {p q : PyData} (hu : X.A.units + 64 < cLine) (h1 : toPy x = some p) (h2 : toPy y = some q) (s1 : SeqAt.shaped p = true) (s2 : SeqAt.shaped q = true) : CmpD X .NotEq x y (!PyData.eqv p q) := ⟨_, op_neD hu, fun M H v u Q mt hv hu k => ⟨p, q, dp_of h1 hv, dp_of h2 hu, s1, s2, k _ H (Ext.refl _ _) (by simp [R])⟩⟩
/-- one sign in a text -/
theorem cd_inC {c : Nat} {t : Str} : CmpD X .In (.str ⟨#[c]⟩) (.str t) (decide (c ∈ t.cps.toList)) := ⟨_, op_in_sign, fun M H v u Q mt hv hu k => by
  simp only [R] at hv hu; exact ⟨c, t, hv, hu, k _ H (Ext.refl _ _) (by simp [R])⟩⟩
theorem cd_notInC {c : Nat} {t : Str} : CmpD X .NotIn (.str ⟨#[c]⟩) (.str t) (!decide (c ∈ t.cps.toList)) := ⟨_, op_notIn_sign, fun M H v u Q mt hv hu k => by
  simp only [R] at hv hu; exact ⟨c, t, hv, hu, k _ H (Ext.refl _ _) (by simp [R])⟩⟩
theorem Rs.flats {K : PySem.W.Frag} {mg : Str → Option Value} : ∀ {ds : List D} {vs ws : List V}, flats ds = some ws → Rs K mg M H vs ds → vs = ws
  | [], [], ws, h, r => by simp [Od.flats] at h; rw [h]
  | d :: ds, v :: vs, ws, h, r => by
    unfold Rs at r
    unfold Od.flats at h
    cases q1 : Od.flat d with
    | none => rw [q1] at h; cases h
    | some w =>
      rw [q1] at h
      cases q2 : Od.flats ds with
      | none => rw [q2] at h; cases h
      | some w2 =>
        rw [q2] at h
        cases h
        rw [r.1.flat q1, Rs.flats q2 r.2]
  | [], _ :: _, _, _, r => by unfold Rs at r; exact r.elim
  | _ :: _, [], _, _, r => by unfold Rs at r; exact r.elim
/-- x in a list or tuple of plain things -/
theorem cd_inL {v : V} {ws : List V} (h1 : flat x = some v) (h2 : flats ds = some ws) (f1 : flatV v = true) (f2 : ws.all flatV = true) : CmpD X .In x (.lst ds) (inV v ws) := ⟨_, op_in_seq, fun M H v' u Q mt hv hu k => by
  obtain rfl := hv.flat h1
  obtain ⟨a, xs, rfl, _, ha, ra⟩ := r_lst hu
  obtain rfl := ra.flats h2
  exact ⟨a, xs, rfl, .inl (.of ha), f1, f2, k _ H (Ext.refl _ _) (by simp [R])⟩⟩
theorem cd_inT {v : V} {ws : List V} (h1 : flat x = some v) (h2 : flats ds = some ws) (f1 : flatV v = true) (f2 : ws.all flatV = true) : CmpD X .In x (.tup ds) (inV v ws) := ⟨_, op_in_seq, fun M H v' u Q mt hv hu k => by
  obtain rfl := hv.flat h1
  obtain ⟨a, xs, rfl, ha, ra⟩ := r_tup hu
  obtain rfl := ra.flats h2
  exact ⟨a, xs, rfl, .inr ha, f1, f2, k _ H (Ext.refl _ _) (by simp [R])⟩⟩
theorem eqV_str {s t : Str} : eqV (.str t) (.str s) = decide (s = t) := by
  show (t == s) = decide (s = t)
  by_cases h : s = t
  · subst h; simp
  · rw [decide_eq_false h]
    exact beq_eq_false_iff_ne.mpr fun q => h q.symm
/-- a text in a tuple of two, three texts -/
theorem cd_inT2 {s a b : Str} : CmpD X .In (.str s) (.tup [.str a, .str b]) (decide (s = a) || decide (s = b)) := (cd_inT rfl rfl rfl rfl).eq (by
  simp only [inV, List.any_cons, List.any_nil, eqV_str, Bool.or_false])
theorem cd_inT3 {s a b c : Str} : CmpD X .In (.str s) (.tup [.str a, .str b, .str c]) (decide (s = a) || (decide (s = b) || decide (s = c))) := (cd_inT rfl rfl rfl rfl).eq (by
  simp only [inV, List.any_cons, List.any_nil, eqV_str, Bool.or_false])

/-! subscripts, slices -/
theorem xd_lst {i : Int} {j : Nat} (hi : ixN ds.length i = some j) (hd : ds[j]? = some d) : IxD X (.lst ds) (.int i) d := ⟨_, ix_list, fun M H v u Q mt hv hu k => by
  obtain ⟨a, xs, rfl, _, ha, ra⟩ := r_lst hv
  simp only [R] at hu
  obtain ⟨w, hw, rw'⟩ := ra.get hd
  exact ⟨a, xs, i, w, rfl, hu, .of ha, by unfold atI; rw [ra.length, hi]; exact hw, k _ H (Ext.refl _ _) rw'⟩⟩
theorem xd_tup {i : Int} {j : Nat} (hi : ixN ds.length i = some j) (hd : ds[j]? = some d) : IxD X (.tup ds) (.int i) d := ⟨_, ix_tup, fun M H v u Q mt hv hu k => by
  obtain ⟨a, xs, rfl, ha, ra⟩ := r_tup hv
  simp only [R] at hu
  obtain ⟨w, hw, rw'⟩ := ra.get hd
  exact ⟨a, xs, i, w, rfl, hu, ha, by unfold atI; rw [ra.length, hi]; exact hw, k _ H (Ext.refl _ _) rw'⟩⟩
theorem xd_str {s : Str} {i : Int} {j c : Nat} (hl : s.length ≤ sizeLine) (hi : ixN s.cps.toList.length i = some j) (hd : s.cps.toList[j]? = some c) : IxD X (.str s) (.int i) (.str ⟨#[c]⟩) := ⟨_, ix_str, fun M H v u Q mt hv hu k => by
  simp only [R] at hv hu
  exact ⟨s, i, c, hv, hu, hl, by unfold atI; rw [hi]; exact hd, k _ H (Ext.refl _ _) (by simp [R])⟩⟩
theorem ixN_nat {n j : Nat} (h : j < n) : ixN n (j : Int) = some j := by
  unfold ixN; rw [if_pos (by omega), if_pos (by omega)]; simp
theorem ixN_int {n : Nat} {i : Int} (h0 : 0 ≤ i) (h : i < n) : ixN n i = some i.toNat := by
  unfold ixN; rw [if_pos h0, if_pos h]
def cutD (ds : List D) (lo hi : Option Int) : List D := (ds.drop (HT.sIx ds.length 0 lo)).take (HT.sIx ds.length ds.length hi - HT.sIx ds.length 0 lo)
theorem Rs.cut {K : PySem.W.Frag} {mg : Str → Option Value} {xs : List V} (r : Rs K mg M H xs ds) (lo hi : Option Int) : Rs K mg M H (cutV xs lo hi) (cutD ds lo hi) := by
  unfold cutV cutD
  rw [r.length]
  exact (r.drop _).take _
theorem sd_lst {lo hi : Option Int} : SlD X (.lst ds) lo hi (.lst (cutD ds lo hi)) := ⟨_, sl_list, fun M H v Q mt hv k => by
  obtain ⟨a, xs, rfl, _, ha, ra⟩ := r_lst hv
  exact ⟨a, xs, rfl, .of ha, fun p hp => k _ _ (Ext.new hp) (r_newl mt hp (ra.cut lo hi))⟩⟩
theorem sd_tup {lo hi : Option Int} : SlD X (.tup ds) lo hi (.tup (cutD ds lo hi)) := ⟨_, sl_tupA, fun M H v Q mt hv k => by
  have hv0 := hv
  obtain ⟨a, xs, rfl, ha, ra⟩ := r_tup hv
  refine ⟨a, xs, rfl, ha, fun h => ?_, fun h p hp => k _ _ (Ext.new hp) (r_newt mt hp (ra.cut lo hi))⟩
  have e : cutD ds lo hi = ds := by
    unfold cutD
    rw [ra.length] at h
    rw [h.1, h.2]; simp
  rw [e] at k
  exact k _ H (Ext.refl _ _) hv0⟩
theorem sd_str {s : Str} {lo hi : Option Int} (h : s.length ≤ sizeLine) : SlD X (.str s) lo hi (.str (cutS s lo hi)) := ⟨_, sl_str, fun M H v Q mt hv k => by
  simp only [R] at hv
  exact ⟨s, hv, h, k _ H (Ext.refl _ _) (by simp [R])⟩⟩

/-! built-ins -/
theorem kd_lenL : CalD X (.builtin "len") [.lst ds] (.int ds.length) := ⟨_, call_len_seq, fun M H vs Q mt hv k => by
    obtain ⟨v, rfl, hw⟩ := rs1 hv
    obtain ⟨a, xs, rfl, _, ha, ra⟩ := r_lst hw
    exact ⟨a, xs, rfl, .inl (.of ha), k _ H (Ext.refl _ _) (by simp [R, ra.length])⟩⟩
theorem kd_lenT : CalD X (.builtin "len") [.tup ds] (.int ds.length) := ⟨_, call_len_seq, fun M H vs Q mt hv k => by
    obtain ⟨v, rfl, hw⟩ := rs1 hv
    obtain ⟨a, xs, rfl, ha, ra⟩ := r_tup hw
    exact ⟨a, xs, rfl, .inr ha, k _ H (Ext.refl _ _) (by simp [R, ra.length])⟩⟩
theorem kd_lenS {s : Str} (h : s.length ≤ sizeLine) : CalD X (.builtin "len") [.str s] (.int s.length) := ⟨_, call_len_str, fun M H vs Q mt hv k => by
    obtain ⟨v, rfl, this⟩ := rs1 hv
    simp only [R] at this
    exact ⟨s, by rw [this], h, k _ H (Ext.refl _ _) (by simp [R])⟩⟩
theorem kd_int {i : Int} : CalD X (.type "int") [.int i] (.int i) := ⟨_, call_int1, fun M H vs Q mt hv k => by
    obtain ⟨v, rfl, this⟩ := rs1 hv
    simp only [R] at this
    exact .inl ⟨i, by rw [this], k _ H (Ext.refl _ _) (by simp [R])⟩⟩
theorem kd_intB {b : Bool} : CalD X (.type "int") [.bl b] (.int (if b then 1 else 0)) := ⟨_, call_int1, fun M H vs Q mt hv k => by
    obtain ⟨v, rfl, this⟩ := rs1 hv
    simp only [R] at this
    exact .inr ⟨b, by rw [this], k _ H (Ext.refl _ _) (by simp [R])⟩⟩
theorem kd_strI {i : Int} (h : i.natAbs.log2 < 1920) : CalD X (.type "str") [.int i] (.str (toString i)) := ⟨_, call_str_int, fun M H vs Q mt hv k => by
    obtain ⟨v, rfl, this⟩ := rs1 hv
    simp only [R] at this
    exact ⟨i, by rw [this], h, k _ H (Ext.refl _ _) (by simp [R])⟩⟩
theorem kd_sum {ns : List Int} (hc : X.calm = true := by rfl) : CalD X (.builtin "sum") [.lst (ns.map D.int)] (.int ns.sum) := ⟨_, cr_sum hc, fun M H vs Q mt hv k => by
    obtain ⟨v, rfl, hw⟩ := rs1 hv
    obtain ⟨a, xs, rfl, _, ha, ra⟩ := r_lst hw
    obtain rfl := Rs.ints.mp ra
    exact ⟨a, ns, rfl, .of ha, k _ H (Ext.refl _ _) (by simp [R])⟩⟩
def maxI : List Int → Int
  | [] => 0
  | [a] => a
  | a :: b :: r => max a (maxI (b :: r))
theorem maxI_mem : ∀ {l : List Int}, l ≠ [] → maxI l ∈ l
  | [], h => absurd rfl h
  | [a], _ => by simp [maxI]
  | a :: b :: r, _ => by
    have ih := maxI_mem (l := b :: r) (by simp)
    unfold maxI
    by_cases h : a ≤ maxI (b :: r)
    · rw [Int.max_eq_right h]; exact List.mem_cons_of_mem _ ih
    · rw [Int.max_eq_left (by omega)]; exact List.mem_cons_self
theorem maxI_le : ∀ {l : List Int} {y : Int}, y ∈ l → y ≤ maxI l
  | [a], y, h => by simp at h; simp [maxI, h]
  | a :: b :: r, y, h => by
    unfold maxI
    rcases List.mem_cons.mp h with e | e
    · subst e; exact Int.le_max_left _ _
    · exact Int.le_trans (maxI_le e) (Int.le_max_right _ _)
theorem kd_max {ns : List Int} (hn : ns ≠ []) (hc : X.calm = true := by rfl) : CalD X (.builtin "max") [.lst (ns.map D.int)] (.int (maxI ns)) := ⟨_, cr_max hc, fun M H vs Q mt hv k => by
    obtain ⟨v, rfl, hw⟩ := rs1 hv
    obtain ⟨a, xs, rfl, _, ha, ra⟩ := r_lst hw
    obtain rfl := Rs.ints.mp ra
    refine ⟨a, ns, rfl, .of ha, List.length_pos_iff.mpr hn, fun m hm hle => ?_⟩
    have e : m = maxI ns := Int.le_antisymm (maxI_le hm) (hle _ (maxI_mem hn))
    subst e
    exact k _ H (Ext.refl _ _) (by simp [R])⟩
theorem kd_any {bs : List Bool} (hc : X.calm = true := by rfl) : CalD X (.builtin "any") [.lst (bs.map D.bl)] (.bl (bs.any id)) := ⟨_, cr_any hc, fun M H vs Q mt hv k => by
    obtain ⟨v, rfl, hw⟩ := rs1 hv
    obtain ⟨a, xs, rfl, _, ha, ra⟩ := r_lst hw
    obtain rfl := Rs.bls.mp ra
    exact ⟨a, bs, rfl, .of ha, k _ H (Ext.refl _ _) (by simp [R])⟩⟩
theorem kd_all {bs : List Bool} (hc : X.calm = true := by rfl) : CalD X (.builtin "all") [.lst (bs.map D.bl)] (.bl (bs.all id)) := ⟨_, cr_all hc, fun M H vs Q mt hv k => by
    obtain ⟨v, rfl, hw⟩ := rs1 hv
    obtain ⟨a, xs, rfl, _, ha, ra⟩ := r_lst hw
    obtain rfl := Rs.bls.mp ra
    exact ⟨a, bs, rfl, .of ha, k _ H (Ext.refl _ _) (by simp [R])⟩⟩
theorem kd_listL : CalD X (.type "list") [.lst ds] (.lst ds) := ⟨_, call_list_of, fun M H vs Q mt hv k => by
    obtain ⟨v, rfl, hw⟩ := rs1 hv
    obtain ⟨a, xs, rfl, _, ha, ra⟩ := r_lst hw
    exact ⟨a, xs, rfl, .inl (.of ha), fun p hp => k _ _ (Ext.new hp) (r_newl mt hp ra)⟩⟩
theorem kd_listT : CalD X (.type "list") [.tup ds] (.lst ds) := ⟨_, call_list_of, fun M H vs Q mt hv k => by
    obtain ⟨v, rfl, hw⟩ := rs1 hv
    obtain ⟨a, xs, rfl, ha, ra⟩ := r_tup hw
    exact ⟨a, xs, rfl, .inr ha, fun p hp => k _ _ (Ext.new hp) (r_newl mt hp ra)⟩⟩
theorem kd_tupL : CalD X (.type "tuple") [.lst ds] (.tup ds) := ⟨_, call_tuple_of, fun M H vs Q mt hv k => by
    obtain ⟨v, rfl, hw⟩ := rs1 hv
    obtain ⟨a, xs, rfl, _, ha, ra⟩ := r_lst hw
    exact ⟨a, xs, rfl, .inl ⟨.of ha, fun p hp => k _ _ (Ext.new hp) (r_newt mt hp ra)⟩⟩⟩
/-- sorted texts: the one list in order -/
theorem kd_sortedS {ss ts : List Str} (hl : ss.length < 64) (h : ∀ ys : List Str, ys.Perm ss → PyProof.Rows.sortedS ys = true → ys = ts) : CalD X (.builtin "sorted") [.lst (ss.map D.str)] (.lst (ts.map D.str)) := ⟨_, cr_sortedS, fun M H vs Q mt hv k => by
    obtain ⟨v, rfl, hw⟩ := rs1 hv
    obtain ⟨a, xs, rfl, _, ha, ra⟩ := r_lst hw
    obtain rfl := Rs.strs.mp ra
    refine ⟨a, ss, rfl, .of ha, hl, fun ys p h1 h2 hp => ?_⟩
    obtain rfl := h ys h1 h2
    exact k _ _ (Ext.new hp) (r_newl mt hp (Rs.strs.mpr rfl))⟩
/-- sep.join(texts) -/
theorem sd_joinL {s : Str} {ts : List Str} (h : (ts.map (·.length)).sum + ts.length * s.length ≤ 16777216) : StrD X "str.join" s [.lst (ts.map D.str)] (.str (Txt.join s ts)) := ⟨_, mt_join, fun M H vs Q mt hv k => by
    obtain ⟨v, rfl, hw⟩ := rs1 hv
    obtain ⟨a, xs, rfl, _, ha, ra⟩ := r_lst hw
    obtain rfl := Rs.strs.mp ra
    exact ⟨s, a, ts, rfl, rfl, .inl (.of ha), h, k _ H (Ext.refl _ _) (by simp [R])⟩⟩
/-! isinstance -/
/-- what isinstance asks of an own class -/
structure ClsI (K : PySem.W.Frag) (C : Addr) : Prop where
  cl : Cls K C
  ha : PySem.W.findIn K (.ref C) "__class__" = some (some (.builtin "object.__class__"))
  hn : PySem.W.specialIn K (.builtin "object.__class__") "__get__" = some (some (.builtin "getset_descriptor.__get__"))
  ht : PySem.W.takesIn K (.builtin "object.__class__") = some true
  hm : PySem.W.mroIn K C (.type "object") = some true
def tyN : D → Option String
  | .non => some "NoneType"
  | .bl _ => some "bool"
  | .int _ => some "int"
  | .str _ => some "str"
  | .lst _ => some "list"
  | .tup _ => some "tuple"
  | _ => none
theorem tyx_of {K : PySem.W.Frag} {mg : Str → Option Value} {v : V} {t : String} : ∀ {d : D}, tyN d = some t → R K mg M H v d → TyX K H v (.type t)
  | .non, h, r => by simp only [R] at r; simp only [tyN, Option.some.injEq] at h; subst r h; exact .base .non
  | .bl _, h, r => by simp only [R] at r; simp only [tyN, Option.some.injEq] at h; subst r h; exact .base (.bl _)
  | .int _, h, r => by simp only [R] at r; simp only [tyN, Option.some.injEq] at h; subst r h; exact .base (.int _)
  | .str _, h, r => by simp only [R] at r; simp only [tyN, Option.some.injEq] at h; subst r h; exact .base (.str _)
  | .lst _, h, r => by
    unfold R at r; simp only [tyN, Option.some.injEq] at h; subst h
    obtain ⟨a, xs, rfl, _, ha, _⟩ := r
    exact .base (.lst ha)
  | .tup _, h, r => by
    unfold R at r; simp only [tyN, Option.some.injEq] at h; subst h
    obtain ⟨a, xs, rfl, ha, _⟩ := r
    rcases ha with ⟨_, ha⟩ | ⟨o, its, n, h1, h2, h3, _⟩
    · exact .base (.tup ha)
    · exact .kTuple h1 h2
  | .dic _ _, h, r => by simp [tyN] at h
  | .ref _, h, r => by simp [tyN] at h
  | .ty _, h, r => by simp [tyN] at h
  | .obj _ _ _, h, r => by simp [tyN] at h
  | .scr _, h, r => by simp [tyN] at h
  | .lam _, h, r => by simp [tyN] at h
  | .exc _ _ _ _, h, r => by simp [tyN] at h
/-- isinstance(x, T) -/
theorem kd_isi {t n : String} {b : Bool} (h1 : tyN x = some t) (h2 : kitB t n = some b) : CalD X (.builtin "isinstance") [x, .ty n] (.bl b) := ⟨_, call_isi, fun M H vs Q mt hv k => by
    obtain ⟨v, u, rfl, r1, r2⟩ := rs2 hv
    simp only [R] at r2
    subst r2
    exact ⟨v, .ty n, .type t, .type n, b, rfl, .ty n, tyx_of h1 r1, kit_ty h2, k _ H (Ext.refl _ _) (by simp [R])⟩⟩
/-- isinstance(x, C), x plain -/
theorem kd_isiC {t : String} {C : Addr} {b : Bool} (h1 : tyN x = some t) (h2 : PySem.W.kitOne X.K (.type t) (.ref C) = some b) : CalD X (.builtin "isinstance") [x, .ref C] (.bl b) := ⟨_, call_isi, fun M H vs Q mt hv k => by
    obtain ⟨v, u, rfl, r1, r2⟩ := rs2 hv
    simp only [R] at r2
    subst r2
    exact ⟨v, .ref C, .type t, .ref C, b, rfl, .own C, tyx_of h1 r1, h2, k _ H (Ext.refl _ _) (by simp [R])⟩⟩
theorem tyx_obj {K : PySem.W.Frag} {mg : Str → Option Value} {v : V} {c : Str} {ns : List Str} {C : Addr} (hm : mg c = some (.ref C)) (I : ClsI K C) (r : R K mg M H v (.obj c ns ds)) : TyX K H v (.ref C) := by
  unfold R at r
  obtain ⟨a, C', dx, xs, rfl, _, hm', ha, _⟩ := r
  rw [hm] at hm'; cases hm'
  exact .base (.ins ha I.cl I.ha I.hn I.ht I.hm)
/-- isinstance(o, T), o an instance -/
theorem kd_isiO {c : Str} {ns : List Str} {C : Addr} {n : String} {b : Bool} (hm : X.mg c = some (.ref C)) (I : ClsI X.K C) (h2 : PySem.W.kitOne X.K (.ref C) (.type n) = some b) : CalD X (.builtin "isinstance") [.obj c ns ds, .ty n] (.bl b) := ⟨_, call_isi, fun M H vs Q mt hv k => by
    obtain ⟨v, u, rfl, r1, r2⟩ := rs2 hv
    simp only [R] at r2
    subst r2
    exact ⟨v, .ty n, .ref C, .type n, b, rfl, .ty n, tyx_obj hm I r1, h2, k _ H (Ext.refl _ _) (by simp [R])⟩⟩
theorem kd_isiOC {c : Str} {ns : List Str} {C C2 : Addr} {b : Bool} (hm : X.mg c = some (.ref C)) (I : ClsI X.K C) (h2 : PySem.W.kitOne X.K (.ref C) (.ref C2) = some b) : CalD X (.builtin "isinstance") [.obj c ns ds, .ref C2] (.bl b) := ⟨_, call_isi, fun M H vs Q mt hv k => by
    obtain ⟨v, u, rfl, r1, r2⟩ := rs2 hv
    simp only [R] at r2
    subst r2
    exact ⟨v, .ref C2, .ref C, .ref C2, b, rfl, .own C2, tyx_obj hm I r1, h2, k _ H (Ext.refl _ _) (by simp [R])⟩⟩
/-- isinstance(x, (S, T)) -/
theorem kd_isiT {t n1 n2 : String} {b1 b2 : Bool} (h1 : tyN x = some t) (q1 : kitB t n1 = some b1) (q2 : kitB t n2 = some b2) : CalD X (.builtin "isinstance") [x, .tup [.ty n1, .ty n2]] (.bl (b1 || b2)) := ⟨_, CallR.or call_isiT call_isiK, fun M H vs Q mt hv k => by
    obtain ⟨v, u, rfl, r1, r2⟩ := rs2 hv
    unfold R at r2
    obtain ⟨a, xs, rfl, ha, rr⟩ := r2
    obtain ⟨w1, w2, rfl, g1, g2⟩ := rs2 rr
    simp only [R] at g1 g2
    subst g1 g2
    have any2 : PySem.W.kitAny X.K (.type t) [.type n1, .type n2] = some (b1 || b2) := by
      refine kitAny_cons (kit_ty q1) (fun e => ?_) fun e => by rw [e]; rfl
      subst e
      refine kitAny_cons (kit_ty q2) (fun e => ?_) fun e => by rw [e]; rfl
      subst e
      exact kitAny_nil
    rcases ha with ⟨_, ha⟩ | ⟨⟨oc, dd, dt, sl⟩, its, n, k1, k2, k3, k4, k5⟩
    · exact .inl ⟨v, a, _, .type t, [.type n1, .type n2], _, rfl, ha, .cons (.ty _) (.cons (.ty _) .nil), tyx_of h1 r1, any2, k _ H (Ext.refl _ _) (by simp [R])⟩
    · simp only at k2 k3
      subst k2 k3
      have e5 : its.toList = [.type n1, .type n2] := by
        cases its with
        | mk l =>
          simp only at k5
          cases k5 with
          | cons a1 k6 =>
            cases k6 with
            | cons a2 k7 =>
              cases k7
              rw [show _ = _ from a1, show _ = _ from a2]
      refine .inr ⟨v, a, dd, its.toList, n, sl, .type t, _, rfl, by simpa using k1, tyx_of h1 r1, by rw [e5]; exact any2, k _ H (Ext.refl _ _) (by simp [R])⟩⟩
end
end Od

set_option Elab.async false
set_option linter.all false
set_option maxRecDepth 100000
set_option maxHeartbeats 4000000
/-! Od7: max(xs, default=d) of a list of ints -/
namespace Od
open PySem L2 PyProof.Rows
section
variable {prog : Program} {w : World} {A : Around} {rr : Result → Shared → Prop} {it bl : Addr} {fp wr : List Addr} {n : Nat} {pp : Nat → Value → Prop} {stt : Nat → Heap → Prop} {dv : Value}
def dfl (dv : Value) : List (Str × Value) := [(Str.ofString "default", dv)]
abbrev lsO (vs : Array Value) (c : Nat) : Obj := { cls := .type "list", dict := none, data := .seq vs c, slots := #[] }
theorem mxName : (toString "max" ++ toString ".loop" : String) = "max.loop" := by decide
/-- the turns behind the first -/
theorem mx_loop (W : PySem.Walks prog w A.in1 it fp wr n pp stt) (bt : Nat → Nat → Bool) (hc : CmpOf prog w A.in1 .Gt pp bt) (hb : bl ∉ fp) (k : Nat) : ∀ (j : Nat) (s : Shared) (vb : Value) (c : Nat), n - (j + 1) = k → j + 1 ≤ n → stt (j + 1) s.heap → pp (argBest bt j) vb → s.heap.get? bl = some (lsO #[vb, vb] c) →
    (∀ v h' tk, pp (argBest bt (n - 1)) v → (∀ b o, b ∉ wr → b ≠ bl → s.heap.get? b = some o → h'.get? b = some o) → rr (.ok (.ret v)) { s with heap := h', toks := tk }) → codeAny (model prog w) A (.builtin "max.loop" ⟨[.ref it, .none, .ref bl], dfl dv⟩) rr s := by
  have hw : bl ∉ wr := fun h => hb (W.sub _ h)
  induction k with
  | zero =>
    intro j s vb c hk hj hs hp hS hR
    have he : j + 1 = n := by omega
    refine codeAny_builtin (F.entry_max_loop) ?_
    rw [Around.under_plainId (F.plain_max_loop) _]
    show wpAny (model prog w) A.in1 ((seqItems? (.ref bl)) >>= _) _ _ s
    refine wpAny_bind (wpAny_seqItems (hS) rfl ?_)
    show wpAny (model prog w) A.in1 ((tryCatch (pyNext (.ref it)) _) >>= _) _ _ s
    refine wpAny_bind (wpAny_tryCatch (W.done (s) _ _ (he ▸ hs) fun h' tk hk' => ?_))
    have hS2 := hk' bl _ hw hS
    show wpAny (model prog w) A.in1 ((updateSeq bl (fun _ => #[])) >>= _) _ _ _
    refine wpAny_bind (wpAny_updateSeq (hS2) rfl (wpAny_bind (wpAny_letGo (wpAny_pure (hR vb _ tk (by rw [← he]; exact hp) fun b o b1 b2 e => ?_)))))
    exact (Heap.get?_update_other _ _ fun z => b2 z.symm).trans (hk' b o b1 e)
  | succ k ih =>
    intro j s vb c hk hj hs hp hS hR
    have he : j + 1 < n := by omega
    refine codeAny_builtin (F.entry_max_loop) ?_
    rw [Around.under_plainId (F.plain_max_loop) _]
    show wpAny (model prog w) A.in1 ((seqItems? (.ref bl)) >>= _) _ _ s
    refine wpAny_bind (wpAny_seqItems (hS) rfl ?_)
    show wpAny (model prog w) A.in1 ((tryCatch (pyNext (.ref it)) _) >>= _) _ _ s
    refine wpAny_bind (wpAny_tryCatch (W.item (j + 1) (s) _ _ he hs fun v h' tk hv hs' hk' => ?_))
    have hS2 := hk' bl _ hw hS
    show wpAny (model prog w) A.in1 ((tryCatch (holding [v, v] (richCompare .Gt v vb >>= _)) _) >>= _) _ _ _
    refine wpAny_bind (wpAny_tryCatch (wpAny_holding (wpAny_bind (hc (j + 1) (argBest bt j) v vb _ _ _ hv hp (wpAny_bind (wpAny_holding (wpAny_truthy_bool (wpAny_bind (wpAny_letGo (wpAny_pure ?_))))))))))
    cases hbb : bt (j + 1) (argBest bt j) with
    | true =>
      simp only [if_true]
      refine wpAny_bind (wpAny_updateSeq (hS2) rfl (wpAny_bind (wpAny_letGo ?_)))
      rw [mxName]
      refine wpAny_pure ⟨plainId_quiet (F.plain_max_loop) _, ih (j + 1) _ v _ (by omega) he (W.frame _ _ _ hs' fun b b1 o e => ?_) (by simp only [argBest, hbb, if_true]; exact hv) (Heap.get?_update_self _ hS2 rfl) fun v' h2 tk2 hv' hk2 => hR v' h2 tk2 hv' fun b o b1 b2 e => ?_⟩
      · exact (Heap.get?_update_other _ _ fun z => hb (by rw [z]; exact b1)).trans e
      · exact hk2 b o b1 b2 ((Heap.get?_update_other _ _ fun z => b2 z.symm).trans (hk' b o b1 e))
    | false =>
      simp only [Bool.false_eq_true, if_false]
      refine wpAny_bind (wpAny_letGo ?_)
      rw [mxName]
      exact wpAny_pure ⟨plainId_quiet (F.plain_max_loop) _, ih (j + 1) _ vb c (by omega) he hs' (by simp only [argBest, hbb, Bool.false_eq_true, if_false]; exact hp) hS2 fun v' h2 tk2 hv' hk2 => hR v' h2 tk2 hv' fun b o b1 b2 e => hk2 b o b1 b2 (hk' b o b1 e)⟩
theorem mx_key (a dv : Value) : argsOk "max" ⟨[a], dfl dv⟩ := by unfold argsOk; kernel_rfl
end
section
variable {prog : Program} {w : World} {A : Around} {E : Value → Shared → Prop} {s : Shared} {l : Addr} {xs : Array (Int × Tok)} {Q : Value → Shared → Prop} {dv : Value}
theorem max_dfl (hh : A.handled = none) (hl : s.heap.IsList l (intItems xs)) (h0 : xs.size = 0 → ∀ h' tk, (∀ b o, s.heap.get? b = some o → h'.get? b = some o) → Q dv { s with heap := h', toks := tk })
    (h : 0 < xs.size → ∀ v h' tk, (intItems xs)[argBest (fun i j => decide (numAt xs i > numAt xs j)) (xs.size - 1)]? = some v → (∀ b o, s.heap.get? b = some o → h'.get? b = some o) → Q v { s with heap := h', toks := tk }) :
    wpAny (model prog w) A (call (.builtin "max") [.ref l] (dfl dv)) Q E s := by
  refine kmk_tree F.kind_max F.plain_max F.entry_max (mx_key _ _) ?_
  show wpAny (model prog w) A.in1 ((Builtin.Builtins.bindParams "max" ["key", "default"] 0 ⟨[], dfl dv⟩) >>= _) _ _ s
  refine wpAny_bind (wpAny_of_eq (show Builtin.Builtins.bindParams "max" ["key", "default"] 0 ⟨[], dfl dv⟩ = pure [none, some dv] from rfl) (wpAny_bind (wpAny_pure (wpAny_bind (iter_intList hl fun s2 e st hfp hne => ?_)))))
  subst e
  refine wpAny_bind (wpAny_newObj_type ?_)
  rw [mxName]
  have W := PySem.Walks.list (prog := prog) (w := w) (A := A.in1) hh _ l hne (intItems xs)
  have hS : (s.heap.push { cls := .type "list_iterator", data := .fields #[.ref l, .int 0 0] }).objs.size ∉ [s.heap.objs.size, l] := fun hm => Nat.lt_irrefl _ (hfp _ hm)
  refine wpAny_pure ⟨plainId_quiet (F.plain_max_loop) _, ?_⟩
  have g1 := Heap.get?_push_size (s.heap.push { cls := .type "list_iterator", data := .fields #[.ref l, .int 0 0] }) (o := lsO #[] 0) rfl
  have kp : ∀ b o, b ∉ [s.heap.objs.size] → (s.heap.push { cls := .type "list_iterator", data := .fields #[.ref l, .int 0 0] }).get? b = some o → b ≠ (s.heap.push { cls := .type "list_iterator", data := .fields #[.ref l, .int 0 0] }).objs.size := fun b o _ e => Nat.ne_of_lt (Heap.lt_size e)
  have s0 := W.frame 0 _ ((s.heap.push { cls := .type "list_iterator", data := .fields #[.ref l, .int 0 0] }).push (lsO #[] 0)) st fun b _ o e => Heap.get?_push_of_some _ e
  have hw : (s.heap.push { cls := .type "list_iterator", data := .fields #[.ref l, .int 0 0] }).objs.size ∉ [s.heap.objs.size] := fun hm => hS (List.mem_cons.mpr (.inl (List.mem_singleton.mp hm)))
  have sz : (intItems xs).size = xs.size := by simp [intItems]
  refine codeAny_builtin (F.entry_max_loop) ?_
  rw [Around.under_plainId (F.plain_max_loop) _]
  show wpAny (model prog w) A.in1 ((seqItems? (.ref _)) >>= _) _ _ _
  refine wpAny_bind (wpAny_seqItems (g1) rfl ?_)
  show wpAny (model prog w) _ ((tryCatch (pyNext (.ref _)) _) >>= _) _ _ _
  by_cases hz : xs.size = 0
  · refine wpAny_bind (wpAny_tryCatch (W.done _ _ _ (by rw [sz, hz]; exact s0) fun h' tk hk' => ?_))
    refine wpAny_bind (wpAny_rule (wpAny_pure (h0 hz h' tk fun b o e => hk' b o (fun z => ?_) ?_)))
    · exact absurd (Heap.lt_size e) (by rw [List.mem_singleton.mp z]; exact Nat.lt_irrefl _)
    · exact Heap.get?_push_of_some _ (Heap.get?_push_of_some _ e)
  · have hp : 0 < xs.size := Nat.pos_of_ne_zero hz
    refine wpAny_bind (wpAny_tryCatch (W.item 0 _ _ _ (by rw [sz]; exact hp) s0 fun v h' tk hv hs' hk' => ?_))
    have hS2 := hk' _ _ hw g1
    show wpAny (model prog w) A.in1 ((updateSeq _ (fun _ => #[v, v])) >>= _) _ _ _
    refine wpAny_bind (wpAny_updateSeq (hS2) rfl ?_)
    rw [mxName]
    refine wpAny_pure ⟨plainId_quiet (F.plain_max_loop) _, mx_loop W _ (CmpOf.ints_gt (numAt xs) (fun _ _ => intItems_at)) hS _ 0 _ v _ rfl (by rw [sz]; exact hp) (W.frame _ _ _ hs' fun b b1 o e => ?_) hv (Heap.get?_update_self _ hS2 rfl) fun v' h2 tk2 hv' hk2 => h hp v' h2 tk2 (by rw [sz] at hv'; exact hv') fun b o e => ?_⟩
    · exact (Heap.get?_update_other _ _ fun z => hS (by rw [z]; exact b1)).trans e
    · have lb := Heap.lt_size e
      have b1 : b ∉ [s.heap.objs.size] := fun z => absurd lb (by rw [List.mem_singleton.mp z]; exact Nat.lt_irrefl _)
      have e2 := Heap.get?_push_of_some ({ cls := .type "list_iterator", data := .fields #[.ref l, .int 0 0] } : Obj) e
      have b2 := kp b o b1 e2
      exact hk2 b o b1 b2 ((Heap.get?_update_other _ _ fun z => b2 z.symm).trans (hk' b o b1 (Heap.get?_push_of_some _ e2)))
theorem max_dflI {its : List Value} {ns : List Int} (hh : A.handled = none) (hl : s.heap.IsList l its.toArray) (hi : IntsAre its ns) (h0 : ns = [] → ∀ h' tk, (∀ b o, s.heap.get? b = some o → h'.get? b = some o) → Q dv { s with heap := h', toks := tk })
    (h : ns ≠ [] → ∀ h' tk m t', (∀ b o, s.heap.get? b = some o → h'.get? b = some o) → m ∈ ns → (∀ a, a ∈ ns → a ≤ m) → Q (.int m t') { s with heap := h', toks := tk }) : wpAny (model prog w) A (call (.builtin "max") [.ref l] (dfl dv)) Q E s := by
  obtain ⟨xs, e⟩ := hi.allInts.items
  have hn : numsOf (intItems xs).toList = ns := by rw [← e]; exact hi.numsOf
  rw [nums_intItems] at hn
  subst hn
  rw [e] at hl
  have lz : (xs.toList.map (·.1)).length = xs.size := by simp
  refine max_dfl hh hl (fun z h' tk hk => h0 (List.eq_nil_of_length_eq_zero (by rw [lz]; exact z)) h' tk hk) fun hp v h' tk hv hk => ?_
  obtain ⟨t, rfl⟩ := intItems_at hv
  obtain ⟨h1, h2⟩ := argBest_gt (numAt xs) (xs.size - 1)
  refine h (fun z => by rw [z] at lz; simp at lz; omega) h' tk _ t hk ?_ fun a ha => ?_
  · rw [numAt_eq]; exact getD_mem (by rw [lz]; omega)
  · obtain ⟨j, hj, rfl⟩ := mem_getD ha
    rw [lz] at hj
    rw [← numAt_eq]; exact h2 j (by omega)
end
section
variable {X : Cx} {M : Addr → Prop} {e : DE} {cs cs1 cs2 cs3 : Cs} {pos p pos' apos : Pos} {a b c ex o : Expr} {es : List Expr} {d x y z : D} {ds : List D} {n m : Str}
def maxDI (d : Int) : List Int → Int
  | [] => d
  | a :: r => maxI (a :: r)
/-- max(xs, default=d) -/
theorem e_maxD {ns : List Int} {dv : Int} {kv : Expr} {kp : Pos} (ha : EE X M e cs a (.lst (ns.map D.int)) cs1) (hb : EE X M e cs1 kv (.int dv) cs2) (hm : X.mg "max" = none) (hc : X.calm = true := by rfl) (hg : Gl X "max" := by rfl)
    (hk : ∀ t, PE X kv t → PK X [⟨some "default", kv, kp⟩] (tCons t tNil))
    (he : backTo pos (starEach [a] X.env) = (false, eval a X.env) :: backTo pos (starEach [] X.env) := by rfl) (hpl : (backTo pos (starEach [a] X.env)).any (·.1) = false := by rfl)
    (hall : (backToKw pos (keywordEach [⟨some "default", kv, kp⟩] X.env)).all (·.1.isSome) = true := by rfl) (hnone : (backToKw pos (keywordEach [⟨some "default", kv, kp⟩] X.env)).any (·.1.isNone) = false := by rfl) (hks : (backToKw pos (keywordEach [⟨some "default", kv, kp⟩] X.env)).filterMap (·.1) = [Str.ofString "default"] := by rfl)
    (hst : starEach [a] X.env = (false, eval a X.env) :: starEach [] X.env := by rfl) : EE X M e cs (.Call (.Name "max" p) [a] [⟨some "default", kv, kp⟩] pos) (.int (maxDI dv ns)) cs2 where
  dm := hb.dm.trans ha.dm
  k := fun σ H Q S k => by
    have cr : CallRK X (.builtin "max") [Str.ofString "default"] (fun vs zs H Q => ∃ (a : Addr) (ns : List Int) (dv : Int), vs = [V.ref a] ∧ zs = [V.int dv] ∧ SqL X.K H a (ns.map V.int) ∧ Q (.int (maxDI dv ns)) H) := by
      intro pins s σ H xs zs us ws Q I r1 r2 h
      obtain ⟨a, ns, dv, rfl, rfl, hs, q⟩ := h
      obtain ⟨its, rv, hl, _⟩ := I.list hs
      rw [Vals.ref1 r1]
      cases r2 with
      | cons rr tt =>
        cases tt
        obtain ⟨t, rfl⟩ := rr
        refine max_dflI (I.ok.hd hc) hl.isList rv.ints (fun z h' tk hk => ?_) fun z h' tk mm t' hk h1 h2 => ?_
        · subst z
          exact ⟨.int dv, H, I.kept hk, ⟨t, rfl⟩, q⟩
        · refine ⟨.int mm, H, I.kept hk, ⟨t', rfl⟩, ?_⟩
          have e : maxDI dv ns = mm := by
            cases ns with
            | nil => exact absurd rfl z
            | cons a r => exact Int.le_antisymm (h2 _ (maxI_mem (by simp))) (maxI_le h1)
          rw [← e]; exact q
    refine we_of (pe_callBK cr hg hm (by decide +kernel) (pa_cons pe_w pa_nil hst) (hk _ pe_w) (by decide) (by decide) he hpl hall hnone hks) (ha.k σ H _ S fun v H1 S1 x1 r1 => hb.k σ H1 _ S1 fun u H2 S2 x2 r2 => ?_)
    simp only [R] at r2
    subst r2
    have r1' := S1.r x2 r1
    obtain ⟨ad, xs, rfl, _, hq, rr⟩ := r_lst r1'
    obtain rfl := Rs.ints.mp rr
    exact ⟨ad, ns, dv, rfl, rfl, .of hq, k _ H2 S2 (x1.trans (by rw [← ha.dm]; exact x2)) (by simp [R])⟩
end
end Od

set_option Elab.async false
set_option linter.all false
set_option maxRecDepth 100000
set_option maxHeartbeats 4000000
/-! Od8: cells of lists, own operators, tables of the module, zip -/
namespace Od
open PySem L2
section
variable {X : Cx} {M : Addr → Prop} {e : DE} {cs cs1 cs2 cs3 : Cs} {fr : Frs} {D0 : Ends} {pos p pos' apos : Pos} {a b c ex o : Expr} {es : List Expr} {rest : List Stmt} {d x y z : D} {ds es' : List D} {n m : Str} {k j : Nat}
theorem cell_lst {σ : L2.St} {H : Hp} {ad : Addr} (S : Sit X.K X.mg M σ H e cs) (hin : (ad, MC.lst ds) ∈ cs) : M ad ∧ ∃ xs, H ad = some (.lst xs) ∧ Rs X.K X.mg M H xs ds := by
  obtain ⟨h1, h2⟩ := S.cel _ hin
  exact ⟨h1, h2⟩
/-- b[i], b a list that may change -/
theorem e_ixc {ad : Addr} {i : Int} {j : Nat} (ha : EE X M e cs a (.ref ad) cs) (hb : EE X M e cs b (.int i) cs) (hin : (ad, MC.lst ds) ∈ cs) (hi : ixN ds.length i = some j) (hd : ds[j]? = some d) (hs : PlainIx b := by intro _ _; rfl) : EE X M e cs (.Subscript a b pos) d cs where
  dm := rfl
  k := fun σ H Q S k => by
    refine we_of (pe_ix ix_list pe_w pe_w hs) (ha.k σ H _ S fun v H1 S1 x1 r1 => hb.k σ H1 _ S1 fun u H2 S2 x2 r2 => ?_)
    simp only [R] at r1 r2
    obtain ⟨_, xs, h3, rs⟩ := cell_lst S2 hin
    obtain ⟨w, hw, rw'⟩ := rs.get hd
    exact ⟨ad, xs, i, w, r1, r2, .of h3, by unfold atI; rw [rs.length, hi]; exact hw, k _ H2 S2 (x1.trans x2) rw'⟩
/-- len(b), b a list that may change -/
theorem e_lenc {ad : Addr} (ha : EE X M e cs a (.ref ad) cs) (hin : (ad, MC.lst ds) ∈ cs) (hm : X.mg "len" = none) (hg : Gl X "len" := by rfl) (he : starEach [a] X.env = (false, eval a X.env) :: starEach [] X.env := by rfl) : EE X M e cs (.Call (.Name "len" p) [a] [] pos) (.int ds.length) cs where
  dm := rfl
  k := fun σ H Q S k => by
    refine we_of (pe_callB call_len_seq hg hm PySem.boot_len (pa_cons pe_w pa_nil he) (by decide) (by decide) he rfl) (ha.k σ H _ S fun v H1 S1 x1 r1 => ?_)
    simp only [R] at r1
    obtain ⟨_, xs, h3, rs⟩ := cell_lst S1 hin
    exact ⟨ad, xs, by rw [r1], .inl (.of h3), k _ H1 S1 x1 (by simp [R, rs.length])⟩
/-- a told thing is written -/
theorem sit_put {σ : L2.St} {H : Hp} {ad : Addr} {mc mc' : MC} {ho : HO} (S : Sit X.K X.mg M σ H e cs) (hu : Upd1 ad mc mc' cs cs2) (hc : Cell X.K X.mg M (upd H ad ho) ad mc') : Sit X.K X.mg M σ (upd H ad ho) e cs2 := by
  have mm := (S.cel _ hu.mem).1
  have hnm : ∀ b o, ¬ M b → H b = some o → upd H ad ho b = some o := fun b o nb h => by rw [upd_ne (fun z => nb (by rw [z]; exact mm))]; exact h
  refine ⟨fun b mb => ?_, S.len, fun i d' q => ?_, fun q hq => ?_, ?_⟩
  · by_cases h : b = ad
    · subst h; rw [upd_same]; simp
    · rw [upd_ne h]; exact S.mt b mb
  · obtain ⟨u, e3, r⟩ := S.env i d' q
    exact ⟨u, e3, R.ext hnm (fun _ n _ => n) _ r⟩
  · rcases hu.of S.nd q hq with rfl | ⟨q1, q2⟩
    · exact ⟨mm, hc⟩
    · exact ⟨(S.cel q q1).1, (S.cel q q1).2.ext hnm (fun _ n _ => n) fun o h => by rw [upd_ne q2]; exact h⟩
  · rw [show cs2.map (·.1) = cs.map (·.1) from hu.dm]; exact S.nd
theorem ext_put {H : Hp} {ad : Addr} {ho : HO} (hin : ad ∈ dom cs) : Ext (dom cs) H (upd H ad ho) := fun b o h n => by
  rw [upd_ne (fun z => n (by rw [z]; exact hin))]; exact h
theorem Upd1.dom {ad : Addr} {mc mc' : MC} (hu : Upd1 ad mc mc' cs cs2) : ad ∈ Od.dom cs := List.mem_map_of_mem (f := (·.1)) hu.mem
/-- b[i] = v, b a list that may change -/
theorem at_sub {ad : Addr} {i : Int} {j : Nat} {pt : Pos} (hv : EE X M e cs ex d cs1) (ha : EE X M e cs1 a (.ref ad) cs1) (hb : EE X M e cs1 b (.int i) cs1) (hu : Upd1 ad (.lst ds) (.lst (ds.set j d)) cs1 cs2) (hi : ixN ds.length i = some j)
    (k : At X M e cs2 fr (wSs X rest D0)) (hs : swapsWith ex (some (.Subscript a b pt)) pos.line X.env = pure false := by rfl)
    (hx : ∀ v, assign (.Subscript a b pt) X.env v = (do
      let ov ← holding [v] (eval a X.env)
      let iv ← holding [v, ov] (eval b X.env)
      standAt pt
      holding [v, ov, iv] (setItem ov iv v)
      release [v, ov, iv] []) := by intro _; rfl)
    (hps : ∀ g, PG X (.Subscript a b pt) g → PS X (.Assign [.Subscript a b pt] ex pos) (tAsg (wE X ex) g) := by intro g hg; exact ps_asg pe_w hg rfl rfl rfl) : At X M e cs fr (wSs X (.Assign [.Subscript a b pt] ex pos :: rest) D0) := fun σ H S x l =>
  wss_of (pss_cons (hps _ (pg_sub pe_w pe_w set_list hx)) pss_w) (hv.k σ H _ S fun v H1 S1 x1 r1 => ha.k σ H1 _ S1 fun w H2 S2 x2 r2 => hb.k σ H2 _ S2 fun u H3 S3 x3 r3 => by
    simp only [R] at r2 r3
    obtain ⟨mm, xs, h3, rs⟩ := cell_lst S3 hu.mem
    have r1' := S2.r x3 (S1.r x2 r1)
    refine ⟨ad, xs, i, j, r2, r3, h3, by rw [rs.length]; exact hi, ?_⟩
    have hnm : ∀ b o, ¬ M b → H3 b = some o → upd H3 ad (.lst (xs.set j v)) b = some o := fun b o nb h => by rw [upd_ne (fun z => nb (by rw [z]; exact mm))]; exact h
    refine k σ _ (sit_put S3 hu ⟨_, upd_same, Rs.ext hnm (fun _ n _ => n) _ (rs.set j r1')⟩) ?_ (lo_of l (hu.dm.trans hv.dm))
    have l1 : Lo fr cs1 := lo_of l hv.dm
    exact ext_on (ext_on (ext_on (ext_on x l x1) l1 x2) l1 x3) l1 (ext_put hu.dom))

/-! ### a table of the module: texts by texts -/
theorem xd_kd {pa : Addr} {s t : Str} (h : KDct X.K X.w pa s (.str t)) : IxD X (.ref pa) (.str s) (.str t) := ⟨_, ix_kdict, fun M H v u Q mt hv hu k => by
  simp only [R] at hv hu
  exact ⟨pa, s, .str t, hv, hu, h, k _ H (Ext.refl _ _) (by simp [R])⟩⟩

/-! ### own operators -/
/-- a def of the class under a special name -/
structure Dun (P : Program) (w : World) (K : PySem.W.Frag) (mg : Str → Option Value) (base : Heap) (c m : Str) (k : Nat) (sp : Sp) : Prop where
  ex : ∃ C f, mg c = some (.ref C) ∧ PySem.W.findIn K (.ref C) m = some (some (.ref f)) ∧ PySem.W.isFn K (.ref f) = true ∧ FnR P w K mg base (L2.CX P w) k f sp
variable {ι : Type} {pre : ι → Prop} {args : ι → List D} {res : ι → D}
theorem pu_use {H : Hp} {Q : VK} {E : XK} {vs : List V} (i : ι) (hp : pre i) (mt : ∀ a, M a → H a ≠ none) (r : Rs X.K X.mg M H vs (args i)) (k : Gives X M H (res i) Q) : puSp X.K X.mg pre args res vs H Q E :=
  ⟨M, i, hp, mt, r, by simp, by simp, fun v H' mt' xt _ rv => k v H' xt rv⟩
theorem ud_own {cn : Str} {ns : List Str} (F : Dun X.prog X.w X.K X.mg X.base cn "__neg__" k (puSp X.K X.mg pre args res)) (hr : Room k X.A) (i : ι) (hp : pre i) (hds : [.obj cn ns ds] = args i) : UnD X .USub (.obj cn ns ds) (res i) := by
  obtain ⟨C, f, hm, hf, hfn, F⟩ := F.ex
  have ur : UnR X (unaryOp .USub) (fun x H Q => ∃ a dx fs, x = .ref a ∧ H a = some (.ins C dx fs) ∧ puSp X.K X.mg pre args res [.ref a] H Q E0) := by
    intro pins s σ H x v Q I rx h
    obtain ⟨a, dx, fs, rfl, ea, q⟩ := h
    cases (show v = Value.ref a from rx)
    obtain ⟨mA, O, _, _, _, _⟩ := ins_get I.hok ea
    obtain ⟨od, J, _⟩ := O.look
    obtain ⟨m, hF⟩ := I.fr
    exact PySem.W.ksp_neg hF I.ok.mod.kin J hf hfn (wpAny_call (run_fnR (us := [.ref a]) (vs := [.ref a]) F hr passL I (.cons rfl .nil) q))
  refine ⟨_, ur, fun M H v Q mt hv k => ?_⟩
  have hv0 := hv
  obtain ⟨ad, C', dx, xs, rfl, _, hm', ho, hl, rs⟩ := r_obj hv
  rw [hm] at hm'; cases hm'
  exact ⟨ad, dx, _, rfl, ho, pu_use i hp mt (by rw [← hds]; exact .cons hv0 .nil) k⟩
/-- x == y, x and y of one class with its own def -/
theorem cd_own {op : CmpOp} {cn : Str} {ns : List Str} {b0 : Bool} {nm : Str} (F : Dun X.prog X.w X.K X.mg X.base cn nm k (puSp X.K X.mg pre args res)) (hn : ∀ C, X.mg cn = some (.ref C) → PySem.W.notFirst X.K C (.ref C) = true) (hr : Room k X.A) (i : ι) (hp : pre i) (hds : [.obj cn ns ds, .obj cn ns es'] = args i) (hb : res i = .bl b0)
    (hop : ∀ a b, compareOp op a b = richCompare op a b := by intro _ _; rfl) (hi : (cmpInfo op).2.1 = nm := by rfl) : CmpD X op (.obj cn ns ds) (.obj cn ns es') b0 := by
  subst hi
  obtain ⟨C, f, hm, hf, hfn, F⟩ := F.ex
  have ur : OpR X (compareOp op) (fun x y H Q => ∃ a dx fs b dy gs, x = .ref a ∧ y = .ref b ∧ H a = some (.ins C dx fs) ∧ H b = some (.ins C dy gs) ∧ puSp X.K X.mg pre args res [.ref a, .ref b] H Q E0) := by
    intro pins s σ H x y v u Q I rx ry h
    obtain ⟨a, dx, fs, b, dy, gs, rfl, rfl, ea, eb, q⟩ := h
    cases (show v = Value.ref a from rx)
    cases (show u = Value.ref b from ry)
    obtain ⟨mA, O, _, _, _, _⟩ := ins_get I.hok ea
    obtain ⟨od, J, _⟩ := O.look
    obtain ⟨mB, O2, _, _, _, _⟩ := ins_get I.hok eb
    obtain ⟨od2, J2, _⟩ := O2.look
    obtain ⟨m, hF⟩ := I.fr
    rw [hop]
    refine PySem.W.cmp_K (op := op) (tb := .ref C) hr.units0 hF I.ok.mod.kin J J2.type (hn C hm) hf hfn ?_
    refine wpAny_mono (wpAny_call (run_fnR (us := [.ref a, .ref b]) (vs := [.ref a, .ref b]) F hr passL I (.cons rfl (.cons rfl .nil)) q)) (fun w s' z => ?_) fun _ _ x => x
    obtain ⟨z', H', I', rz, qz⟩ := z
    exact SlX.cmpback rz ⟨z', H', I', rz, qz⟩
  refine ⟨_, ur, fun M H v u Q mt hv hu k => ?_⟩
  have hv0 := hv
  have hu0 := hu
  obtain ⟨ad, C', dx, xs, rfl, _, hm', ho, hl, rs⟩ := r_obj hv
  rw [hm] at hm'; cases hm'
  obtain ⟨ad2, C', dx2, xs2, rfl, _, hm', ho2, hl2, rs2⟩ := r_obj hu
  rw [hm] at hm'; cases hm'
  exact ⟨ad, dx, _, ad2, dx2, _, rfl, rfl, ho, ho2, pu_use i hp mt (by rw [← hds]; exact .cons hv0 (.cons hu0 .nil)) (by rw [hb]; exact k)⟩
end

/-! ### the script -/
section
variable {X : Cx} {M : Addr → Prop}
theorem sd_scr {ns : List Int} {lo hi : Option Int} : SlD X (.scr ns) lo hi (.lst (cutD (ns.map D.int) lo hi)) := ⟨_, sl_list, fun M H v Q mt hv k => by
  unfold R at hv
  obtain ⟨a, rfl, q⟩ := hv
  refine ⟨a, ns.map V.int, rfl, ?_, fun p hp => k _ _ (Ext.new hp) (r_newl mt hp ((Rs.ints.mpr rfl : Rs X.K X.mg M H (ns.map V.int) (ns.map D.int)).cut lo hi))⟩
  rcases q with ⟨_, q⟩ | q
  · exact .inl q
  · exact .inr q⟩
theorem r_scr {H : Hp} {a : Addr} {ns : List Int} (m : ∀ a, ¬ M a) (h : SqL X.K H a (ns.map V.int)) : R X.K X.mg M H (.ref a) (.scr ns) := by
  unfold R
  refine ⟨a, rfl, ?_⟩
  rcases h with h | h
  · exact .inl ⟨m a, h⟩
  · exact .inr h
end
end Od

set_option Elab.async false
set_option linter.all false
set_option maxRecDepth 100000
set_option maxHeartbeats 4000000
/-! Od9: instances in the making, fields of things that may change, walks over pairs -/
namespace Od
open PySem L2
section
variable {X : Cx} {M : Addr → Prop} {e : DE} {cs cs1 cs2 cs3 : Cs} {fr : Frs} {D0 : Ends} {pos p pos' apos : Pos} {tg a b c ex o : Expr} {es : List Expr} {rest : List Stmt} {d x y z : D} {ds es' : List D} {n m : Str} {k j : Nat}
/-- self.f, self a thing that may change -/
theorem e_fldc {ad C : Addr} {cn : Str} {ns : List Str} (ha : EE X M e cs a (.ref ad) cs) (hin : (ad, MC.obj cn ns ds) ∈ cs) (hm : X.mg cn = some (.ref C)) (hc : Cls X.K C) (hn : NoAttr X.K C m) (i : Nat) (hi : ns.idxOf? m = some i) (hd : ds[i]? = some d)
    (hb : attributeBase a m X.env (eval a X.env) = eval a X.env := by rfl) : EE X M e cs (.Attribute a m pos) d cs where
  dm := rfl
  k := fun σ H Q S k => we_of (pe_fld pe_w hb) (ha.k σ H _ S fun v H1 S1 x1 r1 => by
    simp only [R] at r1
    obtain ⟨_, C', dx, xs, hm', ho, hl, rs⟩ := S1.cel _ hin
    rw [hm] at hm'; cases hm'
    obtain ⟨u, hu, ru⟩ := rs.get hd
    exact ⟨ad, C, dx, _, u, r1, ho, hc, hn, zip_lookup hi hu, k u H1 S1 x1 ru⟩)
theorem putF_new {m : Str} {x : V} : ∀ {ns : List Str} {xs : List V}, m ∉ ns → xs.length = ns.length → putF m x (ns.zip xs) = (ns ++ [m]).zip (xs ++ [x])
  | [], [], _, _ => rfl
  | n :: ns, y :: xs, h, l => by
    have h1 : ¬ n = m := fun z => h (by simp [z])
    show (if n = m then _ else (n, y) :: putF m x (ns.zip xs)) = _
    rw [if_neg h1, putF_new (fun z => h (List.mem_cons_of_mem _ z)) (by simpa using l)]
    rfl
  | [], _ :: _, _, l => by simp at l
  | _ :: _, [], _, l => by simp at l
theorem putF_at {m : Str} {x : V} : ∀ {ns : List Str} {xs : List V} {i : Nat}, ns.idxOf? m = some i → xs.length = ns.length → putF m x (ns.zip xs) = ns.zip (xs.set i x)
  | [], _, _, h, _ => by simp at h
  | n :: ns, [], _, _, l => by simp at l
  | n :: ns, y :: xs, i, h, l => by
    show (if n = m then (n, x) :: ns.zip xs else (n, y) :: putF m x (ns.zip xs)) = _
    rw [List.idxOf?_cons] at h
    by_cases q : n = m
    · subst q
      simp at h; subst h
      rw [if_pos rfl]; rfl
    · simp [q] at h
      obtain ⟨j, hj, rfl⟩ := h
      rw [if_neg q, putF_at hj (by simpa using l)]
      rfl
/-- self.f = v, f new -/
theorem at_fldN {ad C : Addr} {cn : Str} {ns : List Str} (hv : EE X M e cs ex d cs1) (ho : EE X M e cs1 a (.ref ad) cs1) (hm : X.mg cn = some (.ref C)) (hcl : Cls X.K C) (hn : NoAttr X.K C m) (hlen : ns.length < 900) (hnew : m ∉ ns) (hu : Upd1 ad (.obj cn ns ds) (.obj cn (ns ++ [m]) (ds ++ [d])) cs1 cs2)
    (k : At X M e cs2 fr (wSs X rest D0)) (hs : swapsWith ex (some (.Attribute a m pos')) pos.line X.env = pure false := by rfl) : At X M e cs fr (wSs X (.Assign [.Attribute a m pos'] ex pos :: rest) D0) :=
  at_fld (o := ex) (cs' := cs) hv ho hm hcl hn hlen hu.mem hu (fun x xs l => ⟨xs ++ [x], putF_new hnew l, by simp [l], fun H r rs => rs.append (.cons r .nil)⟩) k hs
/-- self.f = v, f there already -/
theorem at_fldU {ad C : Addr} {cn : Str} {ns : List Str} (i : Nat) (hv : EE X M e cs ex d cs1) (ho : EE X M e cs1 a (.ref ad) cs1) (hm : X.mg cn = some (.ref C)) (hcl : Cls X.K C) (hn : NoAttr X.K C m) (hlen : ns.length < 900) (hi : ns.idxOf? m = some i) (hu : Upd1 ad (.obj cn ns ds) (.obj cn ns (ds.set i d)) cs1 cs2)
    (k : At X M e cs2 fr (wSs X rest D0)) (hs : swapsWith ex (some (.Attribute a m pos')) pos.line X.env = pure false := by rfl) : At X M e cs fr (wSs X (.Assign [.Attribute a m pos'] ex pos :: rest) D0) :=
  at_fld (o := ex) (cs' := cs) hv ho hm hcl hn hlen hu.mem hu (fun x xs l => ⟨xs.set i x, putF_at hi l, by simp [l], fun H r rs => rs.set i r⟩) k hs
/-- for x, y in zip(a, b) -/
def pairs : List D → List D → List D
  | x :: xs, y :: ys => .tup [x, y] :: pairs xs ys
  | _, _ => []
theorem pairs_len : ∀ {xs ys : List D}, (pairs xs ys).length = min xs.length ys.length
  | x :: xs, y :: ys => by simp [pairs, pairs_len (xs := xs) (ys := ys), Nat.succ_min_succ]
  | [], _ => by simp [pairs]
  | _ :: _, [] => by simp [pairs]
theorem pairs_get : ∀ {xs ys : List D} {i : Nat} {d : D}, (pairs xs ys)[i]? = some d → ∃ x y, d = .tup [x, y] ∧ xs[i]? = some x ∧ ys[i]? = some y
  | x :: xs, y :: ys, 0, d, h => by
    simp [pairs] at h
    exact ⟨x, y, h.symm, rfl, rfl⟩
  | x :: xs, y :: ys, i + 1, d, h => by
    simp only [pairs, List.getElem?_cons_succ] at h ⊢
    exact pairs_get h
  | [], _, i, d, h => by simp [pairs] at h
  | _ :: _, [], i, d, h => by simp [pairs] at h
theorem walks_zip {H : Hp} {aa ab : Addr} {xs ys : List V} (na : ¬ M aa) (nb : ¬ M ab) (ha : H aa = some (.lst xs)) (hb : H ab = some (.lst ys)) (ra : Rs X.K X.mg M H xs ds) (rb : Rs X.K X.mg M H ys es') : Walks X M (Itz X.K aa ab) (pairs ds es') H := fun M2 H2 kp mt => by
  have h2 : SqL X.K H2 aa xs := .of (kp aa _ na ha).2
  have h3 : SqL X.K H2 ab ys := .of (kp ab _ nb hb).2
  have l1 := ra.length
  have l2 := rb.length
  refine ⟨fun i d hd => ?_, ⟨xs, ys, h2, h3, ?_⟩⟩
  · obtain ⟨x, y, rfl, hx, hy⟩ := pairs_get hd
    obtain ⟨u, hu, ru⟩ := ra.get hx
    obtain ⟨v, hv, rv⟩ := rb.get hy
    refine ⟨⟨xs, ys, u, v, h2, h3, hu, hv⟩, fun z H3 w => ?_⟩
    obtain ⟨T, x', y', rfl, hT, rfl, w1, w2⟩ := w
    have e1 := w1 xs h2
    have e2 := w2 ys h3
    rw [hu] at e1; rw [hv] at e2
    cases e1; cases e2
    exact ⟨Ext.new hT, r_newt mt hT (.cons (later kp ru) (.cons (later kp rv) .nil))⟩
  · rw [pairs_len, l1, l2]
    omega
theorem ei_zip {elts : List Expr} {kk : Nat} {tpos : Pos} (ha : EE X M e cs a (.lst ds) cs1) (hb : EE X M e cs1 b (.lst es') cs2) (hm : X.mg "zip" = none) (hg : Gl X "zip" := by rfl)
    (hs : starEach [a, b] X.env = (false, eval a X.env) :: starEach [b] X.env := by rfl) (hs2 : starEach [b] X.env = (false, eval b X.env) :: starEach [] X.env := by rfl) (hpl : (backTo pos (starEach [b] X.env)).any (·.1) = false := by rfl) : EI X M e cs (.Tuple elts kk tpos) (.Call (.Name "zip" p) [a, b] [] pos) (pairs ds es') cs2 :=
  ⟨hb.dm.trans ha.dm, _, pi_zip hg hm pa_w hs hpl, fun σ H Q S k => (a_cons ha (a_cons hb a_nil hs2) hs).k σ H _ S fun vs H1 S1 x1 r1 => by
    obtain ⟨v, u, rfl, r1, r2⟩ := rs2 r1
    obtain ⟨aa, xs, rfl, na, h1, ra⟩ := r_lst r1
    obtain ⟨ab, ys, rfl, nb, h2, rb⟩ := r_lst r2
    exact ⟨aa, ab, xs, ys, rfl, .of h1, .of h2, k _ H1 S1 x1 (walks_zip na nb h1 h2 ra rb)⟩⟩
end

/-! ### __init__ -/
section
variable {P : Program} {w : World} {K : PySem.W.Frag} {mg : Str → Option Value} {base : Heap} {ι : Type} {pre : ι → Prop} {args : ι → List D} {x qual n c : Str} {ns : List Str} {dz : ι → List D} {st : Stmt} {f : Addr} {fd : FuncData} {N ps : List Str} {k : Nat}
/-- what the body of an __init__ is shown to do; e0: the names' data when it begins -/
def BodyI (P : Program) (w : World) (K : PySem.W.Frag) (mg : Str → Option Value) (base : Heap) (qual : Str) (st : Stmt) (f : Addr) (N : List Str) (k : Nat) (c : Str) {ι : Type} (pre : ι → Prop) (e0 : ι → List D) (ns : List Str) (dz : ι → List D) : Prop :=
  ∀ (cdv : Value) (A : Around) (outer : List Env) (s : Shared) (H0 : Hp) (E : XK) (i : ι) (M : Addr → Prop) (ad : Addr) (Q : VK), pre i → Room k (A.deeper (PyProof.Rows.envOfC qual (defScope st) s.heap.objs.size f cdv)) →
    (∀ H', (∀ a, M a → H' a ≠ none) → Ext [ad] H0 H' → R K mg M H' (.ref ad) (.obj c ns (dz i)) → Q .non H') → ¬ M ad →
    At (cxOf (L2.CX P w) P w K mg base N qual (defScope st) f cdv A outer s H0 E) (fun a => M a ∨ a = ad) (some (.ref ad) :: (e0 i).map some ++ List.replicate (N.length - ((e0 i).length + 1)) none) [(ad, .obj c [] [])] [([ad], H0)]
      (wSs (cxOf (L2.CX P w) P w K mg base N qual (defScope st) f cdv A outer s H0 E) (defBody st) { nx := fun _ H' => Q .non H', rt := Q })
theorem mkr_of (hC : ∃ C, mg c = some (.ref C) ∧ Mk K C f) (F : Fun K x qual st f fd) (S : FnScope N ps (defScope st)) (hb : Binds K fd ps []) (hl : ∀ i, (args i).length + 1 = ps.length) (body : BodyI P w K mg base qual st f N k c pre args ns dz) : Mkr P w K mg base c (k + 1) (mkSp K mg c pre args ns dz) := by
  obtain ⟨C, hm, hmk⟩ := hC
  have h : FnOk P w K mg base (L2.CX P w) (k + 1) f fd ps (mkSp K mg c pre args ns dz) := F.okX S (fun vs H Q E h => by
    obtain ⟨M, i, xa, C, dx, rest, _, rfl, _, _, _, _, r, _⟩ := h
    rw [List.length_cons, r.length, hl]) fun cdv A outer s H vs Q E hr h => by
    obtain ⟨M, i, xa, C', dx, rest, hp, rfl, hm', hx, nx, mt, r, kq⟩ := h
    refine ⟨_, pss_w, ?_⟩
    have mt' : ∀ a, M a ∨ a = xa → H a ≠ none := fun a h => by
      rcases h with h | rfl
      · exact mt a h
      · rw [hx]; simp
    have S0 := sit_start (N := N) (c := [(xa, .obj c [] [])]) mt' (.cons (x := .ref xa) (d := .ref xa) (by simp [R]) r) (fun q hq => by
      rcases List.mem_singleton.mp hq with rfl
      exact ⟨.inr rfl, C', dx, [], hm', by simpa using hx, rfl, Rs.nil⟩) (by show (List.map _ [_]).Nodup; simp)
    refine body cdv A outer s H E i M xa Q hp hr kq nx _ _ S0 (fun q hq => ?_) fun q hq a ha => ?_
    · rcases List.mem_singleton.mp hq with rfl
      exact Ext.refl _ _
    · rcases List.mem_singleton.mp hq with rfl
      exact .inl (by simpa using ha)
  have h2 := h.raw (ds := []) (dvs := []) hb .nil
  exact ⟨C, f, hm, hmk, by simpa using h2⟩
/-- __init__(self, a, .., *v) -/
theorem mkr_star {heads parts : ι → List D} {pv : Str} (hC : ∃ C, mg c = some (.ref C) ∧ Mk K C f) (F : Fun K x qual st f fd) (S : FnScope N (ps ++ [pv]) (defScope st))
    (hb : ∀ (kV doc pm : Value) (an : Option Addr) (cdv ct : Value) (us rest : List Value), us.length = ps.length → bindArgs (PySem.W.fnOf x qual (defArgs st) (defBody st) (defScope st) .none kV doc pm an cdv ct) ⟨us ++ rest, []⟩ = (newTuple rest >>= fun t => pure (ps.zip us ++ [(pv, t)])))
    (hl : ∀ i, (heads i).length + 1 = ps.length) (hz : ∀ i, pre i → (parts i).length ≤ 100000) (body : BodyI P w K mg base qual st f N k c pre (fun i => heads i ++ [.tup (parts i)]) ns dz) : Mkr P w K mg base c (k + 1) (mkSp K mg c pre (fun i => heads i ++ parts i) ns dz) := by
  obtain ⟨C, hm, hmk⟩ := hC
  obtain ⟨oc, od, kV, doc, pm, an, cdv, ct, osl, rfl, lk, hcd⟩ := F.ex
  refine ⟨C, f, hm, hmk, ?_⟩
  have h := StX.fn_star (P := P) (w := w) (mg := mg) (base := base) (k := k) (CX := (L2.CX P w)) (sp := fun vs H Q E => ∃ (M : Addr → Prop) (i : ι) (xa C dx : Addr) (rest : List V), pre i ∧ vs = .ref xa :: rest ∧ mg c = some (.ref C) ∧ H xa = some (.ins C dx []) ∧ ¬ M xa ∧ (∀ a, M a → H a ≠ none) ∧ Rs K mg (fun a => M a ∨ a = xa) H rest (heads i ++ [.tup (parts i)]) ∧
    ∀ H', (∀ a, M a → H' a ≠ none) → Ext [xa] H H' → R K mg M H' (.ref xa) (.obj c ns (dz i)) → Q .non H') lk hcd S StX.cxUp (hb kV doc pm an cdv ct) fun A outer s H vs Q E hr h => by
    obtain ⟨M, i, xa, C', dx, rest, hp, rfl, hm', hx, nx, mt, r, kq⟩ := h
    have mt' : ∀ a, M a ∨ a = xa → H a ≠ none := fun a h => by
      rcases h with h | rfl
      · exact mt a h
      · rw [hx]; simp
    have S0 := sit_start (N := N) (c := [(xa, .obj c [] [])]) mt' (.cons (x := .ref xa) (d := .ref xa) (by simp [R]) r) (fun q hq => by
      rcases List.mem_singleton.mp hq with rfl
      exact ⟨.inr rfl, C', dx, [], hm', by simpa using hx, rfl, Rs.nil⟩) (by show (List.map _ [_]).Nodup; simp)
    refine ⟨wSs (cxOf (L2.CX P w) P w K mg base N qual (defScope st) f cdv A outer s H E) (defBody st), pss_w, ?_⟩
    refine body cdv A outer s H E i M xa Q hp hr kq nx _ _ S0 (fun q hq => ?_) fun q hq a ha => ?_
    · rcases List.mem_singleton.mp hq with rfl
      exact Ext.refl _ _
    · rcases List.mem_singleton.mp hq with rfl
      exact .inl (by simpa using ha)
  intro A outer s H us vs Q E hr e0 r hsp
  refine h A outer s H us vs Q E hr e0 r ?_
  obtain ⟨M, i, xa, C', dx, rest, hp, rfl, hm', hx, nx, mt, r, kq⟩ := hsp
  have hl' := hl i
  have r1 : Rs K mg (fun a => M a ∨ a = xa) H (rest.take (heads i).length) (heads i) := by simpa using r.take (heads i).length
  have r2 : Rs K mg (fun a => M a ∨ a = xa) H (rest.drop (heads i).length) (parts i) := by simpa using r.drop (heads i).length
  refine ⟨.ref xa :: rest.take (heads i).length, rest.drop (heads i).length, by simp, by simp only [List.length_cons, r1.length]; exact hl', by rw [r2.length]; exact Nat.le_trans (hz i hp) (by decide), fun p hp0 => ?_⟩
  have kp : ∀ a o, H a = some o → upd H p (.tup (rest.drop (heads i).length)) a = some o := fun a o h => by rw [upd_ne (ne_of_none h hp0)]; exact h
  have tr : ∀ a, H a ≠ none → upd H p (.tup (rest.drop (heads i).length)) a ≠ none := fun a h => by
    cases q : H a with
    | none => exact absurd q h
    | some o => rw [kp a o q]; simp
  have npx : p ≠ xa := fun z => by rw [z, hx] at hp0; cases hp0
  refine ⟨M, i, xa, C', dx, rest.take (heads i).length ++ [.ref p], hp, rfl, hm', kp _ _ hx, nx, fun a h => tr a (mt a h), ?_, fun H' mt' xt rr => kq H' mt' (fun a o h n => xt a o (kp a o h) n) rr⟩
  refine (Rs.ext (fun a o _ h => kp a o h) (fun _ n _ => n) _ r1).append (.cons ?_ .nil)
  unfold R
  exact ⟨p, _, rfl, .inl ⟨fun z => z.elim (fun z => mt p z hp0) npx, upd_same⟩, Rs.ext (fun a o _ h => kp a o h) (fun _ n _ => n) _ r2⟩
/-- the end of an __init__ -/
theorem at_endI {X : Cx} {M : Addr → Prop} {e : DE} {H0 : Hp} {D0 : Ends} {fr : Frs} {ad : Addr} {c : Str} {ns : List Str} {ds ds' : List D} (hfr : ([ad], H0) ∈ fr) (hd : ds = ds') (nm : ¬ M ad)
    (kq : ∀ H', (∀ a, M a → H' a ≠ none) → Ext [ad] H0 H' → R X.K X.mg M H' (.ref ad) (.obj c ns ds') → D0.nx [] H') (hq : ∀ σ H, D0.nx [] H → D0.nx σ H) : At X (fun a => M a ∨ a = ad) e [(ad, .obj c ns ds)] fr (wSs X [] D0) := at_nil fun σ H S x l => by
  refine hq σ H (kq H (fun a m => S.mt a (.inl m)) (x _ hfr) ?_)
  obtain ⟨_, C, dx, xs, hm, ho, hl, rs⟩ := S.cel (ad, .obj c ns ds) (by simp)
  subst hd
  unfold R
  exact ⟨ad, C, dx, xs, rfl, nm, hm, ho, hl, Rs.ext (fun a o _ h => h) (fun a n _ z => n (.inl z)) _ rs⟩
/-! methods, properties, static methods -/
theorem mth_of {args : ι → List D} {cs cs' : ι → Cs} {res : ι → D} {m : Str} (hC : ∃ C, mg c = some (.ref C) ∧ Cls K C ∧ Meth K C m f) (F : Fun K x qual st f fd) (S : FnScope N ps (defScope st)) (hb : Binds K fd ps []) (hl : ∀ i, (args i).length = ps.length) (body : Body P w K mg base qual st f N ps.length k pre args cs res cs') : Mth P w K mg base c m (k + 1) (fnSp K mg pre args cs res cs') := by
  obtain ⟨C, hm, hc, hmt⟩ := hC
  exact ⟨C, f, hm, hc, hmt, fnr_of F S hb hl body⟩
theorem prp_of {args : ι → List D} {cs cs' : ι → Cs} {res : ι → D} {m : Str} (hC : ∃ C p, mg c = some (.ref C) ∧ Cls K C ∧ PropOf K C m p f) (F : Fun K x qual st f fd) (S : FnScope N ps (defScope st)) (hb : Binds K fd ps []) (hl : ∀ i, (args i).length = ps.length) (body : Body P w K mg base qual st f N ps.length k pre args cs res cs') : Prp P w K mg base c m (k + 1) (fnSp K mg pre args cs res cs') := by
  obtain ⟨C, p, hm, hc, hp⟩ := hC
  exact ⟨C, p, f, hm, hc, hp, fnr_of F S hb hl body⟩
theorem dun_of {args : ι → List D} {cs cs' : ι → Cs} {res : ι → D} {m : Str} (hC : ∃ C, mg c = some (.ref C) ∧ PySem.W.findIn K (.ref C) m = some (some (.ref f)) ∧ PySem.W.isFn K (.ref f) = true) (F : Fun K x qual st f fd) (S : FnScope N ps (defScope st)) (hb : Binds K fd ps []) (hl : ∀ i, (args i).length = ps.length) (body : Body P w K mg base qual st f N ps.length k pre args cs res cs') : Dun P w K mg base c m (k + 1) (fnSp K mg pre args cs res cs') := by
  obtain ⟨C, hm, h1, h2⟩ := hC
  exact ⟨C, f, hm, h1, h2, fnr_of F S hb hl body⟩
theorem stc_of {args : ι → List D} {cs cs' : ι → Cs} {res : ι → D} {m : Str} (hC : ∃ C mc, mg c = some (.ref C) ∧ ClX.CRead K C mc ∧ CStm K C mc m f) (F : Fun K x qual st f fd) (S : FnScope N ps (defScope st)) (hb : Binds K fd ps []) (hl : ∀ i, (args i).length = ps.length) (body : Body P w K mg base qual st f N ps.length k pre args cs res cs') : Stc P w K mg base c m (k + 1) (fnSp K mg pre args cs res cs') := by
  obtain ⟨C, mc, hm, h1, h2⟩ := hC
  exact ⟨C, mc, f, hm, h1, h2, F.kp, fnr_of F S hb hl body⟩
end
end Od

set_option Elab.async false
set_option linter.all false
set_option maxRecDepth 100000
set_option maxHeartbeats 4000000
/-! Od10: roads that meet again, a handful of tactics' terms -/
namespace Od
open PySem L2
/-- less is known of the names -/
inductive LeD : DE → DE → Prop
  | nil : LeD [] []
  | drop {x : Option D} {e e' : DE} (h : LeD e e') : LeD (none :: e) (x :: e')
  | same {d : D} {e e' : DE} (h : LeD e e') : LeD (some d :: e) (some d :: e')
theorem LeD.get {e e' : DE} (h : LeD e e') : e.length = e'.length ∧ ∀ (i : Nat) (d : D), e[i]? = some (some d) → e'[i]? = some (some d) := by
  induction h with
  | nil => exact ⟨rfl, fun i d q => q⟩
  | drop _ ih =>
    refine ⟨by simp [ih.1], fun i d q => ?_⟩
    cases i with
    | zero => simp at q
    | succ i => simpa using ih.2 i d (by simpa using q)
  | same _ ih =>
    refine ⟨by simp [ih.1], fun i d q => ?_⟩
    cases i with
    | zero => simpa using q
    | succ i => simpa using ih.2 i d (by simpa using q)
theorem LeD.refl : ∀ {e : DE}, LeD e e
  | [] => .nil
  | none :: _ => .drop LeD.refl
  | some _ :: _ => .same LeD.refl
section
variable {X : Cx} {M : Addr → Prop} {e e1 e2 : DE} {cs cs1 cs2 : Cs} {fr : Frs} {D0 : Ends} {pos p pos' : Pos} {a b c ex : Expr} {rest st st2 : List Stmt} {d x y z : D} {ds : List D} {n : Str} {P : L2.St → Hp → Prop}
theorem Sit.le {K : PySem.W.Frag} {mg : Str → Option Value} {σ : L2.St} {H : Hp} (S : Sit K mg M σ H e cs) (h : LeD e2 e) : Sit K mg M σ H e2 cs where
  mt := S.mt
  len := S.len.trans h.get.1.symm
  env := fun i d q => S.env i d (h.get.2 i d q)
  cel := S.cel
  nd := S.nd
theorem at_go (h : At X M e2 cs2 fr P) (hl : LeD e2 e) (hc : cs = cs2) : At X M e cs fr P := fun σ H S x l => by
  subst hc
  exact h σ H (S.le hl) x l
/-- if c: st else: st2, both ways to the same place -/
theorem at_ifT {b0 : Bool} (e2 : DE) (cs2 : Cs) (hc : ET X M e cs c b0 cs1) (ht : ∀ nx, At X M e2 cs2 fr nx → b0 = true → At X M e cs1 fr (wSs X st { D0 with nx := nx })) (hf : ∀ nx, At X M e2 cs2 fr nx → b0 = false → At X M e cs1 fr (wSs X st2 { D0 with nx := nx }))
    (k : At X M e2 cs2 fr (wSs X rest D0)) : At X M e cs fr (wSs X (.If c st st2 pos :: rest) D0) := at_if hc (ht _ k) (hf _ k)
theorem at_eqE (h : At X M e2 cs fr P) (he : e = e2) : At X M e cs fr P := he ▸ h
theorem at_eqC (h : At X M e cs2 fr P) (he : cs = cs2) : At X M e cs fr P := he ▸ h
end
end Od

set_option Elab.async false
set_option linter.all false
set_option maxRecDepth 100000
set_option maxHeartbeats 4000000
namespace Od
open PySem L2
def top (i : Nat) : Stmt := PySem.Challenge.pw_oneroot_k09_formulas_filled.main.body.getD i (.Pass ⟨0, 0, 0, 0⟩)
abbrev sCells : Stmt := top 25
abbrev sDraw : Stmt := top 26
abbrev sOne : Stmt := top 27
local macro_rules
  | `(tactic| walk_at "bd") => `(tactic| first | exact bd_add | exact bd_sub | exact bd_mulR (by decide) | exact bd_mulL (by decide) | exact bd_mod (by decide) | exact bd_div (by decide))
local macro_rules
  | `(tactic| walk_at "cd") => `(tactic| first | exact cd_lt | exact cd_le | exact cd_gt | exact cd_ge | exact cd_eqI)
local macro_rules
  | `(tactic| walk_at "le") => `(tactic| repeat (first | exact LeD.nil | apply LeD.drop | apply LeD.same))
/-- what a law draws from -/
structure Bag where
  cells : List Int
  pl : Nat
  acc : Int
  seed : Int
  n : Int
def Bag.c (b : Bag) : MC := .lst [.lst (b.cells.map .int), .int b.pl, .int b.acc, .int b.seed, .int b.n]
structure Bag.Ok (b : Bag) : Prop where
  lo : 0 ≤ b.seed
  hi : b.seed < 2147483629
def Bag.fill (b : Bag) : Bag :=
  if b.acc = 0 ∧ b.pl < b.cells.length then
    (if 10 ^ 18 ≤ b.cells.getD b.pl 0 then { b with pl := b.pl + 1, acc := b.cells.getD b.pl 0 }
    else { b with pl := b.pl + 1, seed := (b.seed * 40771 + b.cells.getD b.pl 0 % 2147483477 * 30637 + 43) % 2147483629 })
  else b
def Bag.next (b : Bag) : Bag := { b with seed := (b.seed * b.seed * 7 + b.seed * 38669 + b.n * 1299677 + 65293) % 2147483629 }
def Bag.tick (b : Bag) : Bag := ({ b with n := b.n + 1 } : Bag).fill
def draw (b : Bag) (s : Int) : Int × Bag :=
  if 0 < b.tick.acc then (b.tick.acc % s, { b.tick with acc := b.tick.acc / s })
  else ((b.tick.next.seed / 89 + b.tick.next.seed % 7907 * 61) % s, b.tick.next)
theorem mod_ok (x : Int) : 0 ≤ x % 2147483629 ∧ x % 2147483629 < 2147483629 := ⟨Int.emod_nonneg _ (by decide), Int.emod_lt_of_pos _ (by decide)⟩
theorem Bag.Ok.fill {b : Bag} (h : b.Ok) : b.fill.Ok := by
  unfold Bag.fill
  split
  · split
    · exact ⟨h.lo, h.hi⟩
    · exact ⟨(mod_ok _).1, (mod_ok _).2⟩
  · exact h
theorem Bag.Ok.tick {b : Bag} (h : b.Ok) : b.tick.Ok := Bag.Ok.fill ⟨h.lo, h.hi⟩
theorem draw_ok {b : Bag} (h : b.Ok) (s : Int) : (draw b s).2.Ok := by
  unfold draw
  split
  · exact ⟨h.tick.lo, h.tick.hi⟩
  · exact ⟨(mod_ok _).1, (mod_ok _).2⟩
theorem draw_lo {b : Bag} {s : Int} (h : 0 < s) : 0 ≤ (draw b s).1 ∧ (draw b s).1 < s := by
  unfold draw
  split
  · exact ⟨Int.emod_nonneg _ (by omega), Int.emod_lt_of_pos _ h⟩
  · exact ⟨Int.emod_nonneg _ (by omega), Int.emod_lt_of_pos _ h⟩
structure DrI where
  ad : Addr
  b : Bag
  s : Int
structure DrI.Pre (i : DrI) : Prop where
  ok : i.b.Ok
  pos : 0 < i.s
  lg : i.s.natAbs.log2 < 9000
section
variable (P : Program) (w : World) (K : PySem.W.Frag) (mg : Str → Option Value) (base : Heap)
/-- the built-ins are what they are -/
structure Blt : Prop where
  len : mg "len" = none
  int : mg "int" = none
  list : mg "list" = none
  sorted : mg "sorted" = none
  range : mg "range" = none
  isinstance : mg "isinstance" = none
  all : mg "all" = none
  any : mg "any" = none
  zip : mg "zip" = none
  sum : mg "sum" = none
  max : mg "max" = none
  str : mg "str" = none
  bool : mg "bool" = none
  tuple : mg "tuple" = none
  set : mg "set" = none
abbrev DrawD (k : Nat) : Prop := Dfn P w K mg base "_law_draw" k (fnSp K mg DrI.Pre (fun i => [.ref i.ad, .int i.s]) (fun i => [(i.ad, i.b.c)]) (fun i => .int (draw i.b i.s).1) (fun i => [(i.ad, (draw i.b i.s).2.c)]))
variable {P w K mg base}
theorem scDraw : FnScope ["_law_bag", "_law_sides", "_law_cell", "_law_digit", "_law_seed"] ["_law_bag", "_law_sides"] (defScope sDraw) := ⟨rfl, rfl, rfl, by decide +kernel, rfl, by decide +kernel, by decide +kernel⟩
theorem ok_draw {f : Addr} {fd : FuncData} (F : Fun K "_law_draw" "_law_draw" sDraw f fd) (hm : mg "_law_draw" = some (.ref f)) (hb : Binds K fd ["_law_bag", "_law_sides"] []) (B : Blt mg) : DrawD P w K mg base 3 := by
  refine dfn_of F hm scDraw hb (fun i => rfl) fun cdv A outer s H0 E i M Q hp hr kq => ?_
  obtain ⟨ad, b, sd⟩ := i
  obtain ⟨ok, pos, lg⟩ := hp
  dsimp only at ok pos lg kq
  refine at_sub (j := 4) (e_bin (e_ixc (e_name 0 rfl) e_int (.head _) rfl rfl) e_int (by walk_at "bd")) (e_name 0 rfl) e_int .here rfl ?_
  refine at_ifT [some (.ref ad), some (.int sd), none, none, none] [(ad, b.tick.c)]
    (t_ew (t_and (t_cmp (e_ixc (e_name 0 rfl) e_int (.head _) rfl rfl) e_int (by walk_at "cd")) fun _ => t_and1 (t_cmp (e_ixc (e_name 0 rfl) e_int (.head _) rfl rfl) (e_blt kd_lenL (a_cons (e_ixc (e_name 0 rfl) e_int (.head _) rfl rfl) a_nil) B.len) (by walk_at "cd"))))
    (fun nx k h => ?_) (fun nx k h => ?_) ?_
  · simp only [Bool.and_eq_true, decide_eq_true_eq, List.length_map] at h
    obtain ⟨h1, h2⟩ := h
    have hx : (b.cells.map D.int)[b.pl]? = some (.int (b.cells.getD b.pl 0)) := by
      have : b.pl < b.cells.length := by omega
      simp [List.getD, this]
    refine at_set 2 (e_ix (e_ixc (e_name 0 rfl) e_int (.head _) rfl rfl) (e_ixc (e_name 0 rfl) e_int (.head _) rfl rfl) (xd_lst (ixN_nat (by simpa using h2)) hx)) ?_ scDraw.nd
    refine at_sub (j := 1) (e_bin (e_ixc (e_name 0 rfl) e_int (.head _) rfl rfl) e_int (by walk_at "bd")) (e_name 0 rfl) e_int .here rfl ?_
    refine at_if (t_cmp (e_name 2 rfl) (e_bin e_int e_int (bd_pow (by decide))) (by walk_at "cd")) (fun g => ?_) fun g => ?_
    · refine at_sub (j := 2) (e_name 2 rfl) (e_name 0 rfl) e_int .here rfl ?_
      refine at_nil (at_nil (at_go k (by walk_at "le") ?_))
      simp only [decide_eq_true_eq] at g
      have e : b.tick = { b with n := b.n + 1, pl := b.pl + 1, acc := b.cells.getD b.pl 0 } := by
        have g' : (10 : Int) ^ 18 ≤ b.cells.getD b.pl 0 := g
        have h2' : b.pl < b.cells.length := by omega
        unfold Bag.tick Bag.fill
        exact Eq.trans (if_pos ⟨h1, h2'⟩) (if_pos g')
      rw [e]
      rfl
    · refine at_sub (j := 3) (e_bin (e_bty kd_int (a_cons (e_bin (e_bin (e_bin (e_ixc (e_name 0 rfl) e_int (.head _) rfl rfl) e_int (by walk_at "bd")) (e_bin (e_bin (e_bty kd_int (a_cons (e_name 2 rfl) a_nil) B.int) e_int (by walk_at "bd")) e_int (by walk_at "bd")) (by walk_at "bd")) e_int (by walk_at "bd")) a_nil) B.int) e_int (by walk_at "bd")) (e_name 0 rfl) e_int .here rfl ?_
      refine at_nil (at_nil (at_go k (by walk_at "le") ?_))
      simp only [decide_eq_false_iff_not] at g
      have e : b.tick = { b with n := b.n + 1, pl := b.pl + 1, seed := (b.seed * 40771 + b.cells.getD b.pl 0 % 2147483477 * 30637 + 43) % 2147483629 } := by
        have g' : ¬ (10 : Int) ^ 18 ≤ b.cells.getD b.pl 0 := g
        have h2' : b.pl < b.cells.length := by omega
        unfold Bag.tick Bag.fill
        exact Eq.trans (if_pos ⟨h1, h2'⟩) (if_neg g')
      rw [e]
      rfl
  · refine at_nil (at_go k (by walk_at "le") ?_)
    have e : b.tick = { b with n := b.n + 1 } := by
      unfold Bag.tick Bag.fill
      refine if_neg fun z => ?_
      simp only [Bool.and_eq_false_iff, decide_eq_false_iff_not, List.length_map] at h
      rcases h with h | h
      · exact h z.1
      · exact h (by have := z.2; simp only at this; omega)
    rw [e]
    rfl
  · have tok := ok.tick
    refine at_if (t_cmp (e_ixc (e_name 0 rfl) e_int (.head _) rfl rfl) e_int (by walk_at "cd")) (fun g => ?_) fun g => ?_
    · simp only [decide_eq_true_eq] at g
      refine at_set 3 (e_bin (e_bty kd_int (a_cons (e_ixc (e_name 0 rfl) e_int (.head _) rfl rfl) a_nil) B.int) (e_name 1 rfl) (bd_mod pos)) ?_ scDraw.nd
      refine at_sub (j := 2) (e_bin (e_ixc (e_name 0 rfl) e_int (.head _) rfl rfl) (e_name 1 rfl) (bd_div ⟨pos, lg⟩)) (e_name 0 rfl) e_int .here rfl ?_
      have e : draw b sd = (b.tick.acc % sd, { b.tick with acc := b.tick.acc / sd }) := by
        unfold draw; rw [if_pos g]
      rw [e] at kq
      exact at_end (e_name 3 rfl) rfl (.head _) kq
    · simp only [decide_eq_false_iff_not] at g
      have e : draw b sd = ((b.tick.next.seed / 89 + b.tick.next.seed % 7907 * 61) % sd, b.tick.next) := by
        unfold draw; rw [if_neg g]
      rw [e] at kq
      refine at_nil ?_
      refine at_set 4 (e_ixc (e_name 0 rfl) e_int (.head _) rfl rfl) ?_ scDraw.nd
      have l1 := tok.lo
      have l2 := tok.hi
      refine at_sub (j := 3) (e_bin (e_bty kd_int (a_cons (e_bin (e_bin (e_bin (e_bin (e_bin (e_name 4 rfl) (e_name 4 rfl) (bd_mulL ⟨by omega, by omega⟩)) e_int (by walk_at "bd")) (e_bin (e_name 4 rfl) e_int (by walk_at "bd")) (by walk_at "bd")) (e_bin (e_ixc (e_name 0 rfl) e_int (.head _) rfl rfl) e_int (by walk_at "bd")) (by walk_at "bd")) e_int (by walk_at "bd")) a_nil) B.int) e_int (by walk_at "bd")) (e_name 0 rfl) e_int .here rfl ?_
      refine at_end (e_bin (e_bty kd_int (a_cons (e_bin (e_bin (e_ixc (e_name 0 rfl) e_int (.head _) rfl rfl) e_int (by walk_at "bd")) (e_bin (e_bin (e_bty kd_int (a_cons (e_ixc (e_name 0 rfl) e_int (.head _) rfl rfl) a_nil) B.int) e_int (by walk_at "bd")) e_int (by walk_at "bd")) (by walk_at "bd")) a_nil) B.int) (e_name 1 rfl) (bd_mod pos)) rfl (.head _) kq
end
end Od

set_option Elab.async false
set_option linter.all false
set_option maxRecDepth 100000
set_option maxHeartbeats 4000000
/-! Fm: formulas as plain data -/
namespace Od
open PySem L2 TL PySem.Spec
inductive Op | an | orr | im
deriving DecidableEq
inductive Fm | cst (b : Bool) | le (c : Nat) | bin (o : Op) (a b : Fm)
deriving DecidableEq
def sg (c : Nat) : Str := ⟨#[c]⟩
@[simp] theorem tl_sg (c : Nat) : tl (sg c) = [c] := rfl
def Op.w : Op → Str
  | .an => "and"
  | .orr => "or"
  | .im => "if"
def Op.s : Op → Str
  | .an => " & "
  | .orr => " | "
  | .im => " -> "
def cw (b : Bool) : Str := if b then "true" else "false"
def ct (b : Bool) : Str := if b then "1" else "0"
def Fm.w : Fm → Str
  | .cst b => cw b
  | .le _ => "letter"
  | .bin o _ _ => o.w
def Fm.t : Fm → Str
  | .cst b => ct b
  | .le c => sg c
  | .bin o a b => if o = .im ∧ b = .cst false then ("-" : Str) ++ a.t else ("(" : Str) ++ a.t ++ o.s ++ b.t ++ (")" : Str)
def Fm.sz : Fm → Nat
  | .cst _ => 1
  | .le _ => 1
  | .bin _ a b => 1 + (a.sz + b.sz)
def Fm.nest : Fm → Nat
  | .cst _ => 1
  | .le _ => 1
  | .bin _ a b => 1 + max a.nest b.nest
def Fm.dep : Fm → Nat
  | .cst _ => 0
  | .le _ => 0
  | .bin o a b => (if o = .im then 1 else 0) + max a.dep b.dep
def Fm.has : Fm → Nat → Bool
  | .cst _, _ => false
  | .le c, x => decide (x = c)
  | .bin _ a b, x => a.has x || b.has x
def alpha : List Nat := (List.range 26).map (· + 97)
def Fm.l (f : Fm) : Str := ⟨(alpha.filter f.has).toArray⟩
@[simp] theorem tl_l (f : Fm) : tl f.l = alpha.filter f.has := rfl
def fnames : List Str := ["own_word", "own_parts", "own_text", "own_size", "own_nested", "own_depth", "own_letters"]
/-- the formula's object -/
def Fm.o : Fm → D
  | .cst b => .obj "Formula" fnames [.str (cw b), .lst [], .str (ct b), .int 1, .int 1, .int 0, .str (Fm.cst b).l]
  | .le c => .obj "Formula" fnames [.str "letter", .lst [.str (sg c)], .str (sg c), .int 1, .int 1, .int 0, .str (Fm.le c).l]
  | .bin o a b => .obj "Formula" fnames [.str o.w, .lst [a.o, b.o], .str (Fm.bin o a b).t, .int ((Fm.bin o a b).sz : Nat), .int ((Fm.bin o a b).nest : Nat), .int ((Fm.bin o a b).dep : Nat), .str (Fm.bin o a b).l]
def Fm.parts : Fm → List D
  | .cst _ => []
  | .le c => [.str (sg c)]
  | .bin _ a b => [a.o, b.o]
def Fm.inner : Fm → List Fm
  | .bin _ a b => [a, b]
  | _ => []
def Fm.fs (f : Fm) : List D := [.str f.w, .lst f.parts, .str f.t, .int (f.sz : Nat), .int (f.nest : Nat), .int (f.dep : Nat), .str f.l]
theorem Fm.o_eq : ∀ f : Fm, f.o = .obj "Formula" fnames f.fs
  | .cst _ => rfl
  | .le _ => rfl
  | .bin _ _ _ => rfl
/-- the law's own formula -/
def Fm.d : Fm → D
  | .cst b => .tup [.str (cw b)]
  | .le c => .tup [.str "letter", .str (sg c)]
  | .bin o a b => .tup [.str o.w, a.d, b.d]
/-- its letters are letters -/
def Fm.ok : Fm → Prop
  | .cst _ => True
  | .le c => c ∈ alpha
  | .bin _ a b => a.ok ∧ b.ok
theorem len_app (s t : Str) : (s ++ t).length = s.length + t.length := by
  rw [len_tl, len_tl, len_tl]
  show ((s.cps ++ t.cps).toList).length = _
  simp
theorem tl_app (s t : Str) : tl (s ++ t) = tl s ++ tl t := by
  show ((s.cps ++ t.cps).toList) = _
  simp
theorem Fm.t_len : ∀ f : Fm, f.t.length ≤ 6 * f.sz
  | .cst b => by cases b <;> decide +kernel
  | .le c => by show 1 ≤ 6; decide
  | .bin o a b => by
    have ha := a.t_len
    have hb := b.t_len
    unfold Fm.t Fm.sz
    split
    · rw [len_app]
      have : (("-" : Str)).length = 1 := by decide +kernel
      omega
    · rw [len_app, len_app, len_app, len_app]
      have h1 : (("(" : Str)).length = 1 := by decide +kernel
      have h2 : ((")" : Str)).length = 1 := by decide +kernel
      have h3 : o.s.length ≤ 4 := by cases o <;> decide +kernel
      omega
theorem Fm.l_len (f : Fm) : f.l.length ≤ 26 := by
  rw [len_tl, tl_l]
  exact Nat.le_trans (List.length_filter_le _ _) (by decide)
theorem Fm.sz_pos (f : Fm) : 1 ≤ f.sz := by cases f <;> simp [Fm.sz]
/-- single signs glued -/
theorem join_sg : ∀ (cs : List Nat), Txt.join "" (cs.map sg) = ⟨cs.toArray⟩ := fun cs => by
  apply ext_tl
  rw [join_eq, tl_join]
  have e0 : tl (("" : Str)) = [] := by decide +kernel
  rw [e0]
  have : ∀ cs : List Nat, joinL [] ((cs.map sg).map tl) = cs := by
    intro cs
    induction cs with
    | nil => rfl
    | cons c r ih =>
      cases r with
      | nil => rfl
      | cons d r =>
        show [c] ++ ([] ++ joinL [] (((d :: r).map sg).map tl)) = _
        rw [ih]; rfl
  rw [this]
theorem sum_len_sg (cs : List Nat) : ((cs.map sg).map (·.length)).sum = cs.length := by
  induction cs with
  | nil => rfl
  | cons c r ih =>
    simp only [List.map_cons, List.sum_cons, ih]
    show (sg c).length + _ = _
    have : (sg c).length = 1 := rfl
    rw [this]; simp; omega
theorem join_len0 (cs : List Nat) (h : cs.length ≤ 100000) : ((cs.map sg).map (·.length)).sum + (cs.map sg).length * (("" : Str)).length ≤ 16777216 := by
  have : (("" : Str)).length = 0 := by decide +kernel
  rw [sum_len_sg, this]; omega
/-- sorted single signs -/
theorem ltCps_sg (a b : Nat) : ltCps (sg a).cps.toList (sg b).cps.toList = decide (a < b) := by
  show ltCps [a] [b] = _
  unfold ltCps
  by_cases h : a < b
  · simp [h]
  · by_cases h2 : a = b
    · subst h2; simp [ltCps]
    · have : b < a := by omega
      simp [h, h2, ltCps]
theorem sorted_sg : ∀ {cs : List Nat}, PyProof.Rows.sortedS (cs.map sg) = true → cs.Pairwise (· ≤ ·)
  | [], _ => List.Pairwise.nil
  | [a], _ => by simp
  | a :: b :: r, h => by
    have h' : PyProof.Rows.risingS (sg a) ((b :: r).map sg) = true := h
    simp only [List.map_cons, PyProof.Rows.risingS, ltCps_sg, Bool.and_eq_true, Bool.not_eq_true', decide_eq_false_iff_not] at h'
    have ih : (b :: r).Pairwise (· ≤ ·) := sorted_sg (cs := b :: r) h'.2
    refine List.pairwise_cons.mpr ⟨fun x hx => ?_, ih⟩
    rcases List.mem_cons.mp hx with rfl | hx
    · omega
    · have := (List.pairwise_cons.mp ih).1 x hx
      omega
theorem map_sg_inj : ∀ {xs ys : List Nat}, xs.map sg = ys.map sg → xs = ys
  | [], [], _ => rfl
  | x :: xs, y :: ys, h => by
    simp only [List.map_cons, List.cons.injEq] at h
    have : x = y := by
      have := congrArg tl h.1
      simpa using this
    rw [this, map_sg_inj h.2]
  | [], _ :: _, h => by simp at h
  | _ :: _, [], h => by simp at h
def srt (cs : List Nat) : List Nat := cs.mergeSort (fun a b => decide (a ≤ b))
theorem srt_perm (cs : List Nat) : (srt cs).Perm cs := List.mergeSort_perm _ _
theorem srt_sorted (cs : List Nat) : (srt cs).Pairwise (· ≤ ·) := by
  have := List.pairwise_mergeSort (le := fun a b : Nat => decide (a ≤ b)) (fun a b c h1 h2 => by simp at *; omega) (fun a b => by simp; omega) cs
  exact this.imp (by simp)
theorem sorted_uniq : ∀ {xs ys : List Nat}, xs.Perm ys → xs.Pairwise (· ≤ ·) → ys.Pairwise (· ≤ ·) → xs = ys := fun p h1 h2 => p.eq_of_pairwise (fun a b _ _ h1 h2 => Nat.le_antisymm h1 h2) h1 h2
theorem perm_sg {ys : List Str} {cs : List Nat} (h : ys.Perm (cs.map sg)) : ∃ ds : List Nat, ys = ds.map sg ∧ ds.Perm cs := by
  refine ⟨ys.map fun y => (tl y).headD 0, ?_, ?_⟩
  · rw [List.map_map]
    symm
    have : ∀ y ∈ ys, (sg ∘ fun y => (tl y).headD 0) y = y := fun y hy => by
      obtain ⟨c, _, rfl⟩ := List.mem_map.mp (h.mem_iff.mp hy)
      rfl
    rw [List.map_congr_left this]; simp
  · have := h.map fun y => (tl y).headD 0
    rw [List.map_map] at this
    have e : cs.map ((fun y => (tl y).headD 0) ∘ sg) = cs := by
      have : ∀ c ∈ cs, ((fun y => (tl y).headD 0) ∘ sg) c = c := fun c _ => rfl
      rw [List.map_congr_left this]; simp
    rw [e] at this
    exact this
theorem sortS_sg {ys : List Str} {cs : List Nat} (h : ys.Perm (cs.map sg)) (s : PyProof.Rows.sortedS ys = true) : ys = (srt cs).map sg := by
  obtain ⟨ds, rfl, hp⟩ := perm_sg h
  rw [sorted_uniq (hp.trans (srt_perm cs).symm) (sorted_sg s) (srt_sorted cs)]
def strOf (cs : List Nat) : Str := ⟨cs.toArray⟩
theorem Op.w_ne (o : Op) : decide (o.w = ("letter" : Str)) = false := by cases o <;> decide +kernel
theorem cw_ne (b : Bool) : decide (cw b = ("letter" : Str)) = false := by cases b <;> decide +kernel
theorem nest_pos (f : Fm) : 1 ≤ f.nest := by cases f <;> simp [Fm.nest]
theorem cw_TF (b : Bool) : (decide (cw b = ("true" : Str)) || decide (cw b = ("false" : Str))) = true := by cases b <;> decide +kernel
end Od

set_option Elab.async false
set_option linter.all false
set_option maxRecDepth 100000
set_option maxHeartbeats 4000000
/-! Od11: comprehensions over lists of known shape -/
namespace Od
open PySem L2
section
variable {X : Cx} {M M' : Addr → Prop} {e : DE} {cs cs1 cs2 cs3 : Cs} {pos p pos' apos : Pos} {tg a b c ex o : Expr} {es : List Expr} {d x y z : D} {ds : List D} {n m : Str} {k j : Nat} {α : Type}
theorem outs_mapM (xs : List α) (f : α → D) : outs (fun _ => true) (fun i => ((xs[i]?).map f).getD .non) xs.length = xs.map f := by
  unfold outs
  rw [List.filter_eq_self.mpr fun _ _ => rfl]
  apply List.ext_getElem?
  intro i
  by_cases hi : i < xs.length
  · simp [hi]
  · simp [hi]
theorem rev_ind {p : List α → Prop} (h0 : p []) (h1 : ∀ l a, p l → p (l ++ [a])) : ∀ l, p l := by
  intro l
  have h : ∀ r : List α, p r.reverse := fun r => by
    induction r with
    | nil => exact h0
    | cons a r ih => rw [List.reverse_cons]; exact h1 _ _ ih
  simpa using h l.reverse
theorem outs_filM (xs : List α) (q : α → Bool) (f : α → D) : outs (fun i => ((xs[i]?).map q).getD false) (fun i => ((xs[i]?).map f).getD .non) xs.length = (xs.filter q).map f := by
  induction xs using rev_ind with
  | h0 => rfl
  | h1 l a ih =>
    have h1 : ∀ i, i < l.length → (l ++ [a])[i]? = l[i]? := fun i hi => List.getElem?_append_left hi
    have h2 : (l ++ [a])[l.length]? = some a := by simp
    have e : outs (fun i => (((l ++ [a])[i]?).map q).getD false) (fun i => (((l ++ [a])[i]?).map f).getD .non) l.length = outs (fun i => ((l[i]?).map q).getD false) (fun i => ((l[i]?).map f).getD .non) l.length := by
      unfold outs
      have hf : (List.range l.length).filter (fun i => (((l ++ [a])[i]?).map q).getD false) = (List.range l.length).filter (fun i => ((l[i]?).map q).getD false) := by
        apply List.filter_congr
        intro i hi
        rw [h1 i (List.mem_range.mp hi)]
      rw [hf]
      apply List.map_congr_left
      intro i hi
      rw [h1 i (List.mem_range.mp (List.mem_filter.mp hi).1)]
    rw [List.length_append]
    show outs _ _ (l.length + 1) = _
    by_cases hq : q a = true
    · rw [outs_yes (by simp [h2, hq]), e, ih, h2]
      simp [hq]
    · rw [outs_no (by simp [h2, hq]), e, ih]
      simp [hq]
/-- [elt for tg in iter], what is walked of known shape -/
theorem e_lcM {scope : Scope} (own : List (Str × Nat)) {iter elt : Expr} {ef : D → DE} {P : D → Prop} (xs : List α) (g f : α → D) (hi : EI X M e cs tg iter (xs.map g) cs1) (ht : CTg X scope (own.map (·.2)) e tg ef P) (hP : ∀ x ∈ xs, P (g x)) (hn : xs.length ≤ 100000)
    (turn : ∀ x ∈ xs, ∀ (M' : Addr → Prop), (∀ a, M a → M' a) → ∀ (s : Shared) (H : Hp) (C : Addr) (cl : List (Str × Addr)) (fp : List Addr), EE (blkOf X scope s H C cl fp) M' (ef (g x)) cs1 elt (f x) cs1)
    (ok : BlkOk X.N X.env.scope scope own) (hN : X.N.Nodup) (hc : X.calm = true := by rfl) (hs : ∀ x, foldedSetIterable iter X.env x = pure x := by intro _; rfl) :
    EE X M e cs (.ListComp elt [⟨tg, iter, [], 0⟩] scope pos) (.lst (xs.map f)) cs1 where
  dm := hi.dm
  k := fun σ H Q S k => by
    have at_ : ∀ (i : Nat) (d : D), (xs.map g)[i]? = some d → ∃ x, xs[i]? = some x ∧ x ∈ xs ∧ d = g x := fun i d h => by
      rw [List.getElem?_map] at h
      cases q : xs[i]? with
      | none => rw [q] at h; cases h
      | some x => rw [q] at h; exact ⟨x, rfl, List.mem_of_getElem? q, (Option.some.inj h).symm⟩
    obtain ⟨t, h1, h2, _⟩ := lc_core' (pos := pos) (elt := elt) (ifs := []) hi ht (fun d hd => by
      obtain ⟨x, hx, rfl⟩ := List.mem_map.mp hd
      exact hP x hx) (fun _ => cs1) (fun _ => cs1) (fun _ => true) (fun i => ((xs[i]?).map f).getD .non) rfl (fun _ => rfl) (fun _ => rfl) (by simpa using hn) tYes (fun _ _ _ _ _ => pts_nil) (fun i d hd M' hM σ H Q S k => k H S (Ext.refl _ _))
      (fun i d hd _ M' hM s H C cl fp => by
        obtain ⟨x, q, hx, rfl⟩ := at_ i d hd
        rw [q]
        exact turn x hx M' hM s H C cl fp) (fun i d hd h => by cases h) hc hN ok hs
    refine we_of h1 (h2 σ H Q S fun v H' S' x' r' => k v H' S' x' ?_)
    rw [List.length_map, outs_mapM] at r'
    exact r'
/-- [elt for tg in iter if c] -/
theorem e_lcFM {scope : Scope} (own : List (Str × Nat)) {iter elt c : Expr} {ef : D → DE} {P : D → Prop} (xs : List α) (g : α → D) (q : α → Bool) (f : α → D) (hi : EI X M e cs tg iter (xs.map g) cs1) (ht : CTg X scope (own.map (·.2)) e tg ef P) (hP : ∀ x ∈ xs, P (g x)) (hn : xs.length ≤ 100000)
    (test : ∀ x ∈ xs, ∀ (M' : Addr → Prop), (∀ a, M a → M' a) → ∀ (s : Shared) (H : Hp) (C : Addr) (cl : List (Str × Addr)) (fp : List Addr), ET (blkOf X scope s H C cl fp) M' (ef (g x)) cs1 c (q x) cs1)
    (turn : ∀ x ∈ xs, q x = true → ∀ (M' : Addr → Prop), (∀ a, M a → M' a) → ∀ (s : Shared) (H : Hp) (C : Addr) (cl : List (Str × Addr)) (fp : List Addr), EE (blkOf X scope s H C cl fp) M' (ef (g x)) cs1 elt (f x) cs1)
    (ok : BlkOk X.N X.env.scope scope own) (hN : X.N.Nodup) (hc : X.calm = true := by rfl) (hs : ∀ x, foldedSetIterable iter X.env x = pure x := by intro _; rfl) :
    EE X M e cs (.ListComp elt [⟨tg, iter, [c], 0⟩] scope pos) (.lst ((xs.filter q).map f)) cs1 where
  dm := hi.dm
  k := fun σ H Q S k => by
    have at_ : ∀ (i : Nat) (d : D), (xs.map g)[i]? = some d → ∃ x, xs[i]? = some x ∧ x ∈ xs ∧ d = g x := fun i d h => by
      rw [List.getElem?_map] at h
      cases q : xs[i]? with
      | none => rw [q] at h; cases h
      | some x => rw [q] at h; exact ⟨x, rfl, List.mem_of_getElem? q, (Option.some.inj h).symm⟩
    obtain ⟨t, h1, h2, _⟩ := lc_core' (pos := pos) (elt := elt) (ifs := [c]) hi ht (fun d hd => by
      obtain ⟨x, hx, rfl⟩ := List.mem_map.mp hd
      exact hP x hx) (fun _ => cs1) (fun _ => cs1) (fun i => ((xs[i]?).map q).getD false) (fun i => ((xs[i]?).map f).getD .non) rfl (fun _ => rfl) (fun _ => rfl) (by simpa using hn)
      (fun σ H Q => ∀ (s : Shared) (H0 : Hp) (C : Addr) (cl : List (Str × Addr)) (fp : List Addr), wT (blkOf X scope s H0 C cl fp) c σ H Q) (fun s H C cl fp => pts_one ⟨fun pins s1 σ H1 Q I h => h s H C cl fp pins s1 I⟩)
      (fun i d hd M' hM σ H Q S k s0 H0 C cl fp => by
        obtain ⟨x, q1, hx, rfl⟩ := at_ i d hd
        simp only [q1, Option.map_some, Option.getD_some] at k
        exact (test x hx M' hM s0 H0 C cl fp).k σ H Q S k)
      (fun i d hd hk M' hM s H C cl fp => by
        obtain ⟨x, q1, hx, rfl⟩ := at_ i d hd
        simp only [q1, Option.map_some, Option.getD_some] at hk ⊢
        exact turn x hx hk M' hM s H C cl fp) (fun i d hd h => rfl) hc hN ok hs
    refine we_of h1 (h2 σ H Q S fun v H' S' x' r' => k v H' S' x' ?_)
    rw [List.length_map, outs_filM] at r'
    exact r'
theorem e_join {s : Str} {ts : List Str} (h : (ts.map (·.length)).sum + ts.length * s.length ≤ 16777216) (ho : EE X M e cs o (.str s) cs1) (ha : EE X M e cs1 a (.lst (ts.map D.str)) cs2)
    (h1 : ∀ r, MtR X "str.join" r → PE X (.Call (.Attribute o "join" apos) [a] [] pos) (tM1 r (wE X o) (wE X a)) := by intro r hr; exact pe_m1 PySem.F.slot_str_join PySem.F.type_str_join hr pe_w pe_w) : EE X M e cs (.Call (.Attribute o "join" apos) [a] [] pos) (.str (Txt.join s ts)) cs2 :=
  e_strm (sd_joinL h) ho ha PySem.F.slot_str_join PySem.F.type_str_join h1
end
end Od

set_option Elab.async false
set_option linter.all false
set_option maxRecDepth 100000
set_option maxHeartbeats 4000000
/-! Od12: defs that hand out a new list, which its caller may change -/
namespace Od
open PySem L2
/-- called with args: a new list of ds -/
def fnSpN (K : PySem.W.Frag) (mg : Str → Option Value) {ι : Type} (pre : ι → Prop) (args : ι → List D) (ds : ι → List D) : Sp := fun vs H Q _ =>
  ∃ (M : Addr → Prop) (i : ι), pre i ∧ (∀ a, M a → H a ≠ none) ∧ Rs K mg M H vs (args i) ∧
    ∀ p H', H p = none → (∀ a, M a → H' a ≠ none) → Ext [] H H' → (∃ xs, H' p = some (.lst xs) ∧ Rs K mg (fun a => M a ∨ a = p) H' xs (ds i)) → Q (.ref p) H'
section
variable {P : Program} {w : World} {K : PySem.W.Frag} {mg : Str → Option Value} {base : Heap} {ι : Type} {pre : ι → Prop} {args ds : ι → List D} {x qual n : Str} {st : Stmt} {f : Addr} {fd : FuncData} {N ps : List Str} {k : Nat}
theorem dfnN_of (F : Fun K x qual st f fd) (hm : mg n = some (.ref f)) (S : FnScope N ps (defScope st)) (hb : Binds K fd ps []) (hl : ∀ i, (args i).length = ps.length)
    (body : ∀ (cdv : Value) (A : Around) (outer : List Env) (s : Shared) (H0 : Hp) (E : XK) (i : ι) (M : Addr → Prop) (Q : VK), pre i → Room k (A.deeper (PyProof.Rows.envOfC qual (defScope st) s.heap.objs.size f cdv)) →
      (∀ p H', H0 p = none → (∀ a, M a → H' a ≠ none) → Ext [] H0 H' → (∃ xs, H' p = some (.lst xs) ∧ Rs K mg (fun a => M a ∨ a = p) H' xs (ds i)) → Q (.ref p) H') →
      At (cxOf (L2.CX P w) P w K mg base N qual (defScope st) f cdv A outer s H0 E) M ((args i).map some ++ List.replicate (N.length - (args i).length) none) [] [([], H0)]
        (wSs (cxOf (L2.CX P w) P w K mg base N qual (defScope st) f cdv A outer s H0 E) (defBody st) { nx := fun _ H' => Q .non H', rt := Q })) : Dfn P w K mg base n (k + 1) (fnSpN K mg pre args ds) := by
  have h : FnOk P w K mg base (L2.CX P w) (k + 1) f fd ps (fnSpN K mg pre args ds) := F.okX S (fun vs H Q E h => by
    obtain ⟨M, i, _, _, r, _⟩ := h
    rw [r.length, hl]) fun cdv A outer s H vs Q E hr h => by
    obtain ⟨M, i, hp, mt, r, kq⟩ := h
    refine ⟨_, pss_w, ?_⟩
    refine body cdv A outer s H E i M Q hp hr kq _ _ (sit_start mt r (by simp) (by simp)) (fun q hq => ?_) fun q hq a ha => by simp at ha
    rcases List.mem_singleton.mp hq with rfl
    exact Ext.refl _ _
  have h2 := h.raw (ds := []) (dvs := []) hb .nil
  exact ⟨f, hm, F.kp, by simpa using h2⟩
end
section
variable {X : Cx} {M : Addr → Prop} {e : DE} {cs cs1 : Cs} {fr : Frs} {D0 : Ends} {pos p pos' : Pos} {a ex : Expr} {es : List Expr} {rest : List Stmt} {d : D} {ds : List D} {n x : Str} {k : Nat}
/-- return [..], the new list -/
theorem at_endN {H0 : Hp} {ds' : List D} (ha : EA X M e [] es ds []) (hd : ds = ds') (hl : ds.length ≤ 100000) (hfr : ([], H0) ∈ fr)
    (kq : ∀ p H', H0 p = none → (∀ a, M a → H' a ≠ none) → Ext [] H0 H' → (∃ xs, H' p = some (.lst xs) ∧ Rs X.K X.mg (fun a => M a ∨ a = p) H' xs ds') → D0.rt (.ref p) H') : At X M e [] fr (wSs X (.Return (some (.List es pos')) pos :: rest) D0) := fun σ H S x l =>
  wss_of (pss_cons (ps_ret (pe_lst pa_w)) pss_w) (ha.k σ H _ S fun vs H1 S1 x1 r1 => ⟨by rw [r1.length]; exact Nat.le_trans hl (by decide), fun q hq => by
    have x2 : Ext [] H0 H1 := (x _ hfr).trans x1
    have hn : H0 q = none := by
      cases z : H0 q with
      | none => rfl
      | some o => rw [x2 q o z (by simp)] at hq; cases hq
    refine kq q _ hn (fun b mb => ?_) (x2.trans (Ext.new hq)) ⟨vs, upd_same, ?_⟩
    · by_cases h : b = q
      · subst h; rw [upd_same]; simp
      · rw [upd_ne h]; exact S1.mt b mb
    · subst hd
      exact Rs.ext (fun b o _ h => by rw [upd_ne (ne_of_none h hq)]; exact h) (fun b n h z => z.elim n fun z => h (z ▸ hq)) _ r1⟩)
/-- x = f(..), a new list that may change from here on -/
theorem at_setN {ι : Type} {pre : ι → Prop} {args dz : ι → List D} {dx : List D} (i : Nat) (F : Dfn X.prog X.w X.K X.mg X.base n k (fnSpN X.K X.mg pre args dz)) (hr : Room k X.A) (ha : EA X M e cs (a :: es) dx cs) (j : ι) (hp : pre j) (hds : dx = args j)
    (kk : ∀ q, At X (fun b => M b ∨ b = q) (e.set i (some (.ref q))) ((q, .lst (dz j)) :: cs) fr (wSs X rest D0)) (hN : X.N.Nodup) (hi : X.N[i]? = some x := by rfl) (hx : Loc X.env.scope x := by first | exact .inl rfl | exact .inr rfl) (hg : Gl X n := by rfl)
    (hs : swapsWith (.Call (.Name n p) (a :: es) [] pos) (some (.Name x pos')) pos.line X.env = pure false := by rfl) (hf : X.fn x = true ∨ X.env.scope.names.lookup x = some .local := by first | exact .inl rfl | exact .inr rfl)
    (hdb : (n == ("__debug__" : Str)) = false := by decide) (he : starEach (a :: es) X.env = (false, eval a X.env) :: starEach es X.env := by rfl) (hpl : (backTo pos (starEach es X.env)).any (·.1) = false := by rfl)
    {spos : Pos} (hs2 : swapsWith (.Call (.Name n p) (a :: es) [] pos) (some (.Name x pos')) spos.line X.env = pure false := by rfl) : At X M e cs fr (wSs X (.Assign [.Name x pos'] (.Call (.Name n p) (a :: es) [] pos) spos :: rest) D0) := fun σ H S xx l => by
  obtain ⟨f, hm, hk, F⟩ := F.ex
  refine wss_of (pss_cons (ps_set hN hi hx (pe_callR (E := E0) F hr hg hm hk passL pa_w hdb he hpl) hs2 hf) pss_w) (ha.k σ H _ S fun vs H1 S1 x1 r1 => ?_)
  subst hds
  refine ⟨M, j, hp, S1.mt, r1, fun q H' hq mt xt ⟨xs, hxs, rs⟩ => ?_⟩
  have kp : ∀ b o, H1 b = some o → H' b = some o := fun b o h => xt b o h (by simp)
  have nm : ∀ b, H1 b ≠ none → b ≠ q := fun b h z => h (z ▸ hq)
  have mr : ∀ b, ¬ M b → H1 b ≠ none → ¬ (M b ∨ b = q) := fun b h1 h2 z => z.elim h1 (nm b h2)
  have S2 : Sit X.K X.mg (fun b => M b ∨ b = q) σ H' e ((q, .lst (dz j)) :: cs) := by
    refine ⟨fun b mb => ?_, S1.len, fun i d hd => ?_, fun c hc => ?_, ?_⟩
    · rcases mb with mb | rfl
      · exact mt b mb
      · rw [hxs]; simp
    · obtain ⟨v, e1, r⟩ := S1.env i d hd
      exact ⟨v, e1, R.ext (fun b o _ h => kp b o h) mr _ r⟩
    · rcases List.mem_cons.mp hc with rfl | hc
      · exact ⟨.inr rfl, xs, hxs, rs⟩
      · obtain ⟨m, c2⟩ := S1.cel c hc
        exact ⟨.inl m, c2.ext (fun b o _ h => kp b o h) mr fun o h => kp _ o h⟩
    · show (q :: cs.map (·.1)).Nodup
      refine List.nodup_cons.mpr ⟨fun z => ?_, S1.nd⟩
      obtain ⟨c, hc, e⟩ := List.mem_map.mp z
      exact (S1.cel c hc).2.ne (e ▸ hq)
  refine kk q _ H' (S2.set i (by simp [R])) ?_ ?_
  · exact ext_on (ext_on xx l x1) l (xt.mono (by simp))
  · intro f0 hf0 b hb
    rcases List.mem_cons.mp hb with rfl | hb
    · by_cases h : b ∈ f0.1
      · exact .inl h
      · right
        cases z : f0.2 b with
        | none => rfl
        | some o =>
          have := (ext_on xx l x1) f0 hf0 b o z h
          rw [this] at hq; cases hq
    · exact l f0 hf0 b hb
end
section
variable {P : Program} {w : World} {K : PySem.W.Frag} {mg : Str → Option Value} {base : Heap} {ι : Type} {pre : ι → Prop} {args : ι → List D} {cs cs' : ι → Cs} {res : ι → D} {x qual n : Str} {st : Stmt} {f : Addr} {fd : FuncData} {N ps : List Str} {k : Nat}
theorem fnok_of (F : Fun K x qual st f fd) (S : FnScope N ps (defScope st)) (hl : ∀ i, (args i).length = ps.length) (body : Body P w K mg base qual st f N ps.length k pre args cs res cs') : FnOk P w K mg base (L2.CX P w) (k + 1) f fd ps (fnSp K mg pre args cs res cs') :=
  F.okX S (fun vs H Q E h => by
    obtain ⟨M, i, _, _, r, _⟩ := h
    rw [r.length, hl]) fun cdv A outer s H vs Q E hr h => by
    obtain ⟨M, i, hp, mt, r, hc, nd, kq⟩ := h
    refine ⟨_, pss_w, ?_⟩
    refine body cdv A outer s H E i M Q hp hr kq _ _ (sit_start mt r hc nd) (fun q hq => ?_) fun q hq a ha => ?_
    · rcases List.mem_singleton.mp hq with rfl
      exact Ext.refl _ _
    · rcases List.mem_singleton.mp hq with rfl
      exact .inl ha
end
end Od

set_option Elab.async false
set_option linter.all false
set_option maxRecDepth 100000
set_option maxHeartbeats 4000000
namespace Od
open PySem L2 TL PySem.Spec
abbrev sSigns : Stmt := top 32
abbrev sLeaf : Stmt := top 33
abbrev sForm : Stmt := top 34
local macro_rules
  | `(tactic| walk_at "bd") => `(tactic| first | exact bd_add | exact bd_sub | exact bd_mulR (by decide) | exact bd_mulL (by decide) | exact bd_mod (by decide) | exact bd_div (by decide))
local macro_rules
  | `(tactic| walk_at "cd") => `(tactic| first | exact cd_lt | exact cd_le | exact cd_gt | exact cd_ge | exact cd_eqI | exact cd_eqS)
local macro_rules
  | `(tactic| walk_at "le") => `(tactic| repeat (first | exact LeD.nil | apply LeD.drop | apply LeD.same))
/-! ### the bag at the start -/
def seed0 (s : Int) : List Int → Int
  | [] => s
  | c :: r => seed0 ((s * 45161 + c % 2147483477 + 31) % 2147483629) r
theorem seed0_ok : ∀ (cs : List Int) {s : Int}, 0 ≤ s ∧ s < 2147483629 → 0 ≤ seed0 s cs ∧ seed0 s cs < 2147483629
  | [], _, h => h
  | c :: r, _, h => seed0_ok r (mod_ok _)
theorem seed0_take {cs : List Int} : ∀ {s : Int} {i : Nat} (h : i < cs.length), seed0 s (cs.take (i + 1)) = (seed0 s (cs.take i) * 45161 + cs.getD i 0 % 2147483477 + 31) % 2147483629 := by
  induction cs with
  | nil => intro s i h; simp at h
  | cons c r ih =>
    intro s i h
    cases i with
    | zero => simp [seed0]
    | succ i =>
      simp only [List.take_succ_cons, seed0]
      rw [ih (by simpa using h)]
      simp
def bag0 (cs : List Int) : Bag := ⟨cs, 0, 0, seed0 5624 cs, 0⟩
theorem bag0_ok (cs : List Int) : (bag0 cs).Ok := ⟨(seed0_ok cs (by decide)).1, (seed0_ok cs (by decide)).2⟩
def Bag.d (b : Bag) : List D := [.lst (b.cells.map .int), .int b.pl, .int b.acc, .int b.seed, .int b.n]
section
variable (P : Program) (w : World) (K : PySem.W.Frag) (mg : Str → Option Value) (base : Heap)
abbrev CellsD (k : Nat) : Prop := Dfn P w K mg base "_law_cells" k (fnSpN K mg (fun ns : List Int => ns.length ≤ 63) (fun ns => [.scr ns]) (fun ns => (bag0 ns).d))
/-- what may be chosen from -/
def itemD : D → Nat → D
  | .lst ds, i => ds.getD i .non
  | .str s, i => .str (sg ((tl s).getD i 0))
  | _, _ => .non
def lenD : D → Nat
  | .lst ds => ds.length
  | .str s => s.length
  | _ => 0
structure OnI where
  ad : Addr
  b : Bag
  t : D
structure OnI.Pre (i : OnI) : Prop where
  ok : i.b.Ok
  pos : 0 < lenD i.t
  le : lenD i.t ≤ 100000
abbrev OneD (k : Nat) : Prop := Dfn P w K mg base "_law_one" k (fnSp K mg OnI.Pre (fun i => [.ref i.ad, i.t]) (fun i => [(i.ad, i.b.c)]) (fun i => itemD i.t (draw i.b (lenD i.t)).1.toNat) (fun i => [(i.ad, (draw i.b (lenD i.t)).2.c)]))
variable {P w K mg base}
theorem scCells : FnScope ["_law_script", "_law_seed", "_law_cell"] ["_law_script"] (defScope sCells) := ⟨rfl, rfl, rfl, by decide +kernel, rfl, by decide +kernel, by decide +kernel⟩
theorem cut63 {ns : List Int} (h : ns.length ≤ 63) : cutD (ns.map D.int) none (some 63) = ns.map D.int := by
  have l : (ns.map D.int).length = ns.length := by simp
  have e : HT.sIx (ns.map D.int).length (ns.map D.int).length (some 63) = ns.length := by
    rw [l]
    unfold HT.sIx
    simp
    omega
  unfold cutD
  rw [e]
  show ((ns.map D.int).drop 0).take (ns.length - 0) = _
  simp
  exact List.take_of_length_le (by simp)
theorem ok_cells {f : Addr} {fd : FuncData} (F : Fun K "_law_cells" "_law_cells" sCells f fd) (hm : mg "_law_cells" = some (.ref f)) (hb : Binds K fd ["_law_script"] []) (B : Blt mg) : CellsD P w K mg base 2 := by
  refine dfnN_of F hm scCells hb (fun i => rfl) fun cdv A outer s H0 E ns M Q hp hr kq => ?_
  refine at_set 1 e_int ?_ scCells.nd
  refine at_for (α := fun _ => Unit) (ds := ns.map D.int) (fun _ _ => True) (fun i _ => [some (.scr ns), some (.int (seed0 5624 (ns.take i))), none]) (fun _ _ => [])
    (ei_list ((e_slice (e_name 0 rfl) o_none (o_some e_int) sd_scr).eq (by rw [cut63 hp]))) (ltg_name 2 scCells.nd) (fun _ _ => trivial) () trivial rfl rfl (fun _ _ _ => rfl) (fun i d g H1 hd _ => ?_) fun g _ => ?_
  · have hi : i < ns.length := by
      have := (List.getElem?_eq_some_iff.mp hd).1
      simpa using this
    have e : d = .int (ns.getD i 0) := by
      simp [hi] at hd
      simp [List.getD, hi, hd]
    subst e
    refine at_set 1 (e_bin (e_bty kd_int (a_cons (e_bin (e_bin (e_bin (e_name 1 rfl) e_int (by walk_at "bd")) (e_bin (e_bty kd_int (a_cons (e_name 2 rfl) a_nil) B.int) e_int (by walk_at "bd")) (by walk_at "bd")) e_int (by walk_at "bd")) a_nil) B.int) e_int (by walk_at "bd")) ?_ scCells.nd
    refine at_nil (at_go (at_inv (e := [some (.scr ns), some (.int (seed0 5624 (ns.take (i + 1)))), none]) () trivial rfl rfl) ?_ rfl)
    rw [seed0_take hi]
    walk_at "le"
  · have e : ns.take (ns.map D.int).length = ns := by simp
    rw [e]
    refine at_endN (a_cons (e_bty kd_listL (a_cons (e_slice (e_name 0 rfl) o_none (o_some e_int) sd_scr) a_nil) B.list) (a_cons e_int (a_cons e_int (a_cons (e_name 1 rfl) (a_cons e_int a_nil))))) ?_ (by show 5 ≤ 100000; decide) (.head _) kq
    rw [cut63 hp]; rfl
theorem scOne : FnScope ["_law_bag", "_law_things"] ["_law_bag", "_law_things"] (defScope sOne) := ⟨rfl, rfl, rfl, by decide +kernel, rfl, by decide +kernel, by decide +kernel⟩
end
section
variable {X : Cx} {M : Addr → Prop} {e : DE} {cs cs1 cs2 cs3 : Cs} {pos p pos' apos : Pos} {a c ex o : Expr}
/-- _law_draw(bag, n) -/
theorem e_draw {x : Expr} {ad : Addr} {b : Bag} {n : Int} (F : DrawD X.prog X.w X.K X.mg X.base 3) (hr : Room 3 X.A) (ha : EE X M e cs a (.ref ad) cs) (hx : EE X M e cs x (.int n) cs1) (hu : Upd1 ad b.c (draw b n).2.c cs1 cs2) (ok : b.Ok) (hp : 0 < n ∧ n.natAbs.log2 < 9000) (hg : Gl X "_law_draw" := by rfl)
    (he : starEach [a, x] X.env = (false, eval a X.env) :: starEach [x] X.env := by rfl) (he2 : starEach [x] X.env = (false, eval x X.env) :: starEach [] X.env := by rfl) (hpl : (backTo pos (starEach [x] X.env)).any (·.1) = false := by rfl) : EE X M e cs (.Call (.Name "_law_draw" p) [a, x] [] pos) (.int (draw b n).1) cs2 :=
  e_call1 F hr (a_cons ha (a_cons hx a_nil he2) he) ⟨ad, b, n⟩ ⟨ok, hp.1, hp.2⟩ rfl rfl rfl hu hg (by decide) he hpl
/-- _law_one(bag, things) -/
theorem e_oneL {x : Expr} {ad : Addr} {b : Bag} {t : D} (F : OneD X.prog X.w X.K X.mg X.base 4) (hr : Room 4 X.A) (ha : EE X M e cs a (.ref ad) cs) (hx : EE X M e cs x t cs1) (hu : Upd1 ad b.c (draw b (lenD t)).2.c cs1 cs2) (ok : b.Ok) (hp : 0 < lenD t ∧ lenD t ≤ 100000) (hg : Gl X "_law_one" := by rfl)
    (he : starEach [a, x] X.env = (false, eval a X.env) :: starEach [x] X.env := by rfl) (he2 : starEach [x] X.env = (false, eval x X.env) :: starEach [] X.env := by rfl) (hpl : (backTo pos (starEach [x] X.env)).any (·.1) = false := by rfl) : EE X M e cs (.Call (.Name "_law_one" p) [a, x] [] pos) (itemD t (draw b (lenD t)).1.toNat) cs2 :=
  e_call1 F hr (a_cons ha (a_cons hx a_nil he2) he) ⟨ad, b, t⟩ ⟨ok, hp.1, hp.2⟩ rfl rfl rfl hu hg (by decide) he hpl
end
section
variable {P : Program} {w : World} {K : PySem.W.Frag} {mg : Str → Option Value} {base : Heap}
theorem log2_le {n : Nat} (h : n ≤ 100000) : ((n : Int)).natAbs.log2 < 9000 := by
  have : (n : Int).natAbs = n := by simp
  rw [this]
  have h1 : n.log2 ≤ n := Nat.log2_le_self n
  by_cases hn : n = 0
  · subst hn; decide
  · have : n.log2 < 17 := (Nat.log2_lt hn).mpr (by omega)
    omega
theorem draw_ix {b : Bag} {n : Nat} (h : 0 < n) : ixN n (draw b n).1 = some (draw b n).1.toNat ∧ (draw b n).1.toNat < n := by
  have := draw_lo (b := b) (s := n) (by omega)
  exact ⟨ixN_int this.1 this.2, by omega⟩
theorem ok_one {f : Addr} {fd : FuncData} (F : Fun K "_law_one" "_law_one" sOne f fd) (hm : mg "_law_one" = some (.ref f)) (hb : Binds K fd ["_law_bag", "_law_things"] []) (B : Blt mg) (D0 : DrawD P w K mg base 3) : OneD P w K mg base 4 := by
  refine dfn_of F hm scOne hb (fun i => rfl) fun cdv A outer s H0 E i M Q hp hr kq => ?_
  obtain ⟨ad, b, t⟩ := i
  obtain ⟨ok, pos, le⟩ := hp
  dsimp only at ok pos le kq
  obtain ⟨x1, x2⟩ := draw_ix (b := b) pos
  cases t with
  | lst ds =>
    have hd : ds[(draw b ds.length).1.toNat]? = some (ds.getD (draw b ds.length).1.toNat .non) := by
      have x2' : (draw b ds.length).1.toNat < ds.length := x2
      simp [List.getD, x2']
    exact at_end (e_ix (e_name 1 rfl) (e_draw D0 hr (e_name 0 rfl) (e_blt kd_lenL (a_cons (e_name 1 rfl) a_nil) B.len) .here ok ⟨by show (0 : Int) < ds.length; have : 0 < ds.length := pos; omega, log2_le le⟩) (xd_lst x1 hd)) rfl (.head _) kq
  | str s =>
    have hl : s.cps.toList.length = s.length := (len_tl s).symm
    have hd : s.cps.toList[(draw b s.length).1.toNat]? = some ((tl s).getD (draw b s.length).1.toNat 0) := by
      have x2' : (draw b s.length).1.toNat < s.cps.toList.length := by rw [hl]; exact x2
      simp [List.getD]
      have : (draw b s.length).1.toNat < s.cps.size := by simpa using x2'
      simp [this]
    have hz : s.length ≤ sizeLine := Nat.le_trans le (by decide)
    exact at_end (e_ix (e_name 1 rfl) (e_draw D0 hr (e_name 0 rfl) (e_blt (kd_lenS hz) (a_cons (e_name 1 rfl) a_nil) B.len) .here ok ⟨by show (0 : Int) < s.length; have : 0 < s.length := pos; omega, log2_le le⟩) (xd_str hz (by rw [hl]; exact x1) hd)) rfl (.head _) kq
  | _ => simp [lenD] at pos
end
end Od

set_option Elab.async false
set_option linter.all false
set_option maxRecDepth 100000
set_option maxHeartbeats 4000000
/-! Od13: operators of two own instances, !=, str, repr; instances that change: made, asked, stored -/
namespace PySem.W
open PySem PySem.Spec PySem.Calls PyProof.Rows
section
variable {prog : Program} {w : World} {M : Model} {A : Around} {E : Value → Shared → Prop} {s : Shared} {K : Frag} {x y C L f : Addr} {h₀ : Heap} {m : Str → Option Value} {ox oy : Obj} {od od2 : Option Obj}
theorem odBin {op : Operator} {Q : Value → Shared → Prop} (F : Fr h₀ L s.heap m) (X₀ : K.In h₀) (I : InstAt s.heap x ox C od) (I2 : InstAt s.heap y oy C od2) (hc : selfFirst K C = true) (hs : findIn K (.ref C) (PySem.dunder op.info.2) = some (some (.ref f))) (hf : isFn K (.ref f) = true)
    (h : wpAny (model prog w) A (call (.ref f) [.ref x, .ref y]) (CmpBack Q) E s) : wpAny (model prog w) A (binaryOp op (.ref x) (.ref y)) Q E s := by
  have X := X₀.keeps F.keep; obtain ⟨cd, rest, hcd, hm⟩ := ksp_first hc
  rcases hi : op.info with ⟨sym, nm'⟩; rw [hi] at hs; dsimp only at hs
  have one := ksp_try X I hs hf h; obtain ⟨hh, g, d, tt, os⟩ := s
  have La : Looks (model prog w) hh (typeOf (.ref x)) (.ref C) := I.type; have Lb : Looks (model prog w) hh (typeOf (.ref y)) (.ref C) := I2.type
  have Lc : Looks (model prog w) hh (fillsNumberSlot (.ref C) nm') true := fills_K X hcd hm hs
  simp only [binaryOp, hi]; refine wpAny_holding (wpAny_bind ?_); unfold binaryOp1
  refine wpAny_bind (La.at (wpAny_bind (Lb.at (wpAny_bind (Lc.at ?_)))))
  have he : (Value.ref C == Value.ref C) = true := by simp
  simp only [he, if_true, Bool.and_false, Bool.false_and, Bool.false_eq_true, if_false, Bool.not_false, Bool.true_and]
  ksp_lk
  refine wpAny_mono one (fun r s' hr' => ?_) fun _ _ e => e
  obtain ⟨v, rfl, hq⟩ := hr'
  ksp_lk
  exact hq
open Builtin in
theorem odNe {b : Value} {Q : Value → Shared → Prop} (hu : A.units < cLine) (hu1 : A.in1.units < cLine) (Fh : Fr h₀ L s.heap m) (X₀ : K.In h₀) (I : InstAt s.heap x ox C od) (hb : Looks (model prog w) s.heap (typeOf b) (.ref C)) (hm : mroIn K C (.type "object") = some true)
    (hs : findIn K (.ref C) "__ne__" = some (some (.builtin "object.__ne__"))) (he : findIn K (.ref C) "__eq__" = some (some (.ref f))) (hf : isFn K (.ref f) = true)
    (h : wpAny (model prog w) A.in1 (call (.ref f) [.ref x, b]) (fun v s' => ∃ r, v = .bool r ∧ Q (.bool (!r)) s') E s) : wpAny (model prog w) A (richCompare .NotEq (.ref x) b) Q E s := by
  have X := X₀.keeps Fh.keep
  have cal : wpAny (model prog w) A (call (.builtin "object.__ne__") [.ref x, b]) (fun v s' => ∃ r, v = .bool r ∧ Q (.bool r) s') E s := by
    refine wpAny_call (codeAny_call_builtin F.cmp_object.ne.plain F.cmpEntry_ne (check_slot (i := "object.__ne__") (owner := "object") (n := "__ne__") F.cmpKind_ne F.cmpSplit_ne (I.type.andThen (looks_mroIn X hm)) (F.cmpArgs_ne _ _) ?_))
    unfold Builtin.«object.__ne__»; refine wpAny_bind (m := slotArgs "__ne__" 1 _) (wpAny_pure ?_); refine wpAny_bind (m := cRoomFor _ _) (wpAny_cRoomFor hu1 ?_)
    refine wpAny_bind (m := callSpecialIfBound? (.ref x) (Str.ofString "__eq__") _) (ifBound_K X I he hf (wpAny_mono h (fun v s' hq => ?_) fun _ _ y => y))
    obtain ⟨r, rfl, q⟩ := hq
    refine wpAny_bind (wpAny_truthy_bool (wpAny_pure ⟨_, rfl, q⟩))
  have one : wpAny (model prog w) A (tryCompare (.ref x) "__ne__" b) (fun r s' => ∃ v, r = some v ∧ Q v s') E s := by
    unfold tryCompare; refine wpAny_bind ?_; simp only [callSpecialIfBound?, bindSpecialIfBound?]
    refine wpAny_holding (wpAny_bind (wpAny_bind (wpAny_bind (I.type.here ((looks_findIn X hs).here ?_)))))
    simp only [F.cmp_object.ne.bind]
    refine wpAny_bind (wpAny_askSetting (wpAny_ite ?_))
    have fin : wpAny (model prog w) A (call (.builtin "object.__ne__") ([.ref x] ++ [b]) >>= fun v => pure (some v)) (fun r s' => wpAny (model prog w) A (match r with | some .notImplemented | none => pure none | some v => pure (some v)) (fun r s' => ∃ v, r = some v ∧ Q v s') E s') E s :=
      wpAny_bind (wpAny_mono cal (fun v s' hq => by obtain ⟨r, rfl, q⟩ := hq; exact wpAny_pure (wpAny_pure ⟨_, rfl, q⟩)) fun _ _ z => z)
    split
    · exact wpAny_bind (wpAny_pure (wpAny_pure (by exact fin)))
    · exact wpAny_tryCatch (wpAny_bind (wpAny_pure (wpAny_pure (by exact fin))))
  unfold richCompare; simp only [oneThing_ref]; refine wpAny_holding (wpAny_bind (wpAny_cRoomFor hu ?_)); refine wpAny_bind (I.type.here (wpAny_bind (hb.here ?_)))
  have e : (Value.ref C != Value.ref C) = false := by simp
  simp only [e, Bool.false_eq_true, if_false]
  refine wpAny_bind (wpAny_pure ?_); simp only [Bool.false_eq_true, if_false]
  refine wpAny_bind (m := tryCompare _ _ _) (wpAny_mono one (fun r s' z => ?_) fun _ _ e => e)
  obtain ⟨v, rfl, hq⟩ := z
  exact wpAny_pure hq
end
end PySem.W

set_option Elab.async false
set_option linter.all false
set_option maxRecDepth 100000
set_option maxHeartbeats 4000000
namespace Od
open PySem L2 TL PySem.Spec
section
variable {X : Cx} {M : Addr → Prop} {e : DE} {cs cs1 cs2 cs3 : Cs} {fr : Frs} {D0 : Ends} {pos p pos' apos : Pos} {tg a b c ex o : Expr} {es : List Expr} {rest : List Stmt} {d x y z : D} {ds es' : List D} {n m : Str} {k j : Nat}
variable {ι : Type} {pre : ι → Prop} {args : ι → List D} {cz cz' : ι → Cs} {res : ι → D}
/-- a op b, two instances of one class with an own def for op -/
theorem bd_own {op : Operator} {cn : Str} {ns : List Str} {nm : Str} (F : Dun X.prog X.w X.K X.mg X.base cn nm k (puSp X.K X.mg pre args res)) (hsf : ∀ C, X.mg cn = some (.ref C) → PySem.W.selfFirst X.K C = true) (hr : Room k X.A) (i : ι) (hp : pre i) (hds : [.obj cn ns ds, .obj cn ns es'] = args i) (hi : PySem.dunder op.info.2 = nm := by rfl) : BinD X op (.obj cn ns ds) (.obj cn ns es') (res i) := by
  subst hi
  obtain ⟨C, f, hm, hf, hfn, F⟩ := F.ex
  have ur : OpR X (binaryOp op) (fun x y H Q => ∃ a dx fs b dy gs, x = .ref a ∧ y = .ref b ∧ H a = some (.ins C dx fs) ∧ H b = some (.ins C dy gs) ∧ puSp X.K X.mg pre args res [.ref a, .ref b] H Q E0) := by
    intro pins s σ H x y v u Q I rx ry h
    obtain ⟨a, dx, fs, b, dy, gs, rfl, rfl, ea, eb, q⟩ := h
    cases (show v = Value.ref a from rx)
    cases (show u = Value.ref b from ry)
    obtain ⟨mA, O, _, _, _, _⟩ := ins_get I.hok ea
    obtain ⟨od, J, _⟩ := O.look
    obtain ⟨mB, O2, _, _, _, _⟩ := ins_get I.hok eb
    obtain ⟨od2, J2, _⟩ := O2.look
    obtain ⟨m, hF⟩ := I.fr
    refine PySem.W.odBin hF I.ok.mod.kin J J2 (hsf C hm) hf hfn ?_
    refine wpAny_mono (wpAny_call (run_fnR (us := [.ref a, .ref b]) (vs := [.ref a, .ref b]) F hr passL I (.cons rfl (.cons rfl .nil)) q)) (fun w s' z => ?_) fun _ _ x => x
    obtain ⟨z', H', I', rz, qz⟩ := z
    exact SlX.cmpback rz ⟨z', H', I', rz, qz⟩
  refine ⟨_, ur, fun M H v u Q mt hv hu k => ?_⟩
  have hv0 := hv
  have hu0 := hu
  obtain ⟨ad, C', dx, xs, rfl, _, hm', ho, hl, rs⟩ := r_obj hv
  rw [hm] at hm'; cases hm'
  obtain ⟨ad2, C', dx2, xs2, rfl, _, hm', ho2, hl2, rs2⟩ := r_obj hu
  rw [hm] at hm'; cases hm'
  exact ⟨ad, dx, _, ad2, dx2, _, rfl, rfl, ho, ho2, pu_use i hp mt (by rw [← hds]; exact .cons hv0 (.cons hu0 .nil)) k⟩
/-- a != b by an own __eq__ -/
structure NeF (K : PySem.W.Frag) (C : Addr) : Prop where
  ne : PySem.W.findIn K (.ref C) "__ne__" = some (some (.builtin "object.__ne__"))
  hm : PySem.W.mroIn K C (.type "object") = some true
theorem cd_neOwn {cn : Str} {ns : List Str} {b0 : Bool} (F : Dun X.prog X.w X.K X.mg X.base cn "__eq__" k (puSp X.K X.mg pre args res)) (hn : ∀ C, X.mg cn = some (.ref C) → NeF X.K C) (hr : Room (k + 1) X.A) (i : ι) (hp : pre i) (hds : [.obj cn ns ds, .obj cn ns es'] = args i) (hb : res i = .bl b0) : CmpD X .NotEq (.obj cn ns ds) (.obj cn ns es') (!b0) := by
  obtain ⟨C, f, hm, hf, hfn, F⟩ := F.ex
  have ur : OpR X (compareOp .NotEq) (fun x y H Q => ∃ a dx fs b dy gs, x = .ref a ∧ y = .ref b ∧ H a = some (.ins C dx fs) ∧ H b = some (.ins C dy gs) ∧ puSp X.K X.mg pre args res [.ref a, .ref b] H (fun v H' => ∃ r, v = .bl r ∧ Q (.bl (!r)) H') E0) := by
    intro pins s σ H x y v u Q I rx ry h
    obtain ⟨a, dx, fs, b, dy, gs, rfl, rfl, ea, eb, q⟩ := h
    cases (show v = Value.ref a from rx)
    cases (show u = Value.ref b from ry)
    obtain ⟨mA, O, _, _, _, _⟩ := ins_get I.hok ea
    obtain ⟨od, J, _⟩ := O.look
    obtain ⟨mB, O2, _, _, _, _⟩ := ins_get I.hok eb
    obtain ⟨od2, J2, _⟩ := O2.look
    obtain ⟨m, hF⟩ := I.fr
    have hr1 : Room k X.A.in1 := hr.in1
    show wpAny _ _ (richCompare .NotEq (.ref a) (.ref b)) _ _ _
    refine PySem.W.odNe hr.units0 hr1.units0 hF I.ok.mod.kin J J2.type (hn C hm).hm (hn C hm).ne hf hfn ?_
    refine wpAny_mono (wpAny_call (SlX.run_at (us := [.ref a, .ref b]) (ws := [.ref a, .ref b]) F hr1 I.env0.in1 passL I (.cons rfl (.cons rfl .nil)) q)) (fun w s' z => ?_) fun _ _ x => x
    obtain ⟨z', H', I', rz, r, rfl, qz⟩ := z
    cases (show w = Value.bool r from rz)
    exact ⟨r, rfl, .bl (!r), H', I', rfl, qz⟩
  refine ⟨_, ur, fun M H v u Q mt hv hu k => ?_⟩
  have hv0 := hv
  have hu0 := hu
  obtain ⟨ad, C', dx, xs, rfl, _, hm', ho, hl, rs⟩ := r_obj hv
  rw [hm] at hm'; cases hm'
  obtain ⟨ad2, C', dx2, xs2, rfl, _, hm', ho2, hl2, rs2⟩ := r_obj hu
  rw [hm] at hm'; cases hm'
  refine ⟨ad, dx, _, ad2, dx2, _, rfl, rfl, ho, ho2, pu_use i hp mt (by rw [← hds]; exact .cons hv0 (.cons hu0 .nil)) fun v H' x r => ?_⟩
  rw [hb] at r
  exact ⟨b0, by simpa [R] using r, k _ H' x (by simp [R])⟩
/-- str(o), o an instance with an own __str__ -/
theorem kd_strOwn {cn : Str} {ns : List Str} {t : Str} (F : Dun X.prog X.w X.K X.mg X.base cn "__str__" k (puSp X.K X.mg pre args res)) (hr : Room (k + 2) X.A) (i : ι) (hp : pre i) (hds : [.obj cn ns ds] = args i) (hb : res i = .str t) : CalD X (.type "str") [.obj cn ns ds] (.str t) := by
  obtain ⟨C, f, hm, hf, hfn, F⟩ := F.ex
  have ur : CallR X (.type "str") (fun xs H Q => ∃ a dx fs, xs = [.ref a] ∧ H a = some (.ins C dx fs) ∧ puSp X.K X.mg pre args res [.ref a] H (fun v H' => ∃ r, v = .str r ∧ Q (.str r) H') E0) := by
    intro pins s σ H xs us Q I r h
    obtain ⟨a, dx, fs, rfl, ea, q⟩ := h
    rw [Vals.ref1 r]
    obtain ⟨mA, O, _, _, _, _⟩ := ins_get I.hok ea
    obtain ⟨od, J, _⟩ := O.look
    have hr2 : Room k X.A.in1.in1 := (show Room (k + 1) X.A.in1 from hr.in1).in1
    refine PySem.W.kso_call hr2.units0 I.kIn J hf hfn (wpAny_mono (wpAny_call (SlX.run_at (us := [.ref a]) (ws := [.ref a]) F hr2 I.env0.in1.in1 passL I (.cons rfl .nil) q)) (fun w s' z => ?_) fun _ _ x => x)
    obtain ⟨z', H', I', rz, r, rfl, qz⟩ := z
    obtain ⟨t, rfl⟩ := (show ∃ t, w = Value.str r t from rz)
    exact ⟨.str r, H', I', ⟨t, rfl⟩, qz⟩
  refine ⟨_, ur, fun M H vs Q mt hv k => ?_⟩
  obtain ⟨v, rfl, hw⟩ := rs1 hv
  have hv0 := hw
  obtain ⟨ad, C', dx, xs, rfl, _, hm', ho, hl, rs⟩ := r_obj hw
  rw [hm] at hm'; cases hm'
  refine ⟨ad, dx, _, rfl, ho, pu_use i hp mt (by rw [← hds]; exact .cons hv0 .nil) fun v H' x r => ?_⟩
  rw [hb] at r
  exact ⟨t, by simpa [R] using r, k _ H' x (by simp [R])⟩
/-- repr(o) -/
theorem kd_reprOwn {cn : Str} {ns : List Str} {t : Str} (F : Dun X.prog X.w X.K X.mg X.base cn "__repr__" k (puSp X.K X.mg pre args res)) (hr : Room (k + 1) X.A) (i : ι) (hp : pre i) (hds : [.obj cn ns ds] = args i) (hb : res i = .str t) : CalD X (.builtin "repr") [.obj cn ns ds] (.str t) := by
  obtain ⟨C, f, hm, hf, hfn, F⟩ := F.ex
  have ur : CallR X (.builtin "repr") (fun xs H Q => ∃ a dx fs, xs = [.ref a] ∧ H a = some (.ins C dx fs) ∧ puSp X.K X.mg pre args res [.ref a] H (fun v H' => ∃ r, v = .str r ∧ Q (.str r) H') E0) := by
    intro pins s σ H xs us Q I r h
    obtain ⟨a, dx, fs, rfl, ea, q⟩ := h
    rw [Vals.ref1 r]
    obtain ⟨mA, O, _, _, _, _⟩ := ins_get I.hok ea
    obtain ⟨od, J, _⟩ := O.look
    obtain ⟨m, hF⟩ := I.fr
    have hr1 : Room k X.A.in1 := hr.in1
    refine PySem.W.repr_K hr1.units0 hF I.ok.mod.kin J hf hfn (wpAny_mono (wpAny_call (SlX.run_at (us := [.ref a]) (ws := [.ref a]) F hr1 I.env0.in1 passL I (.cons rfl .nil) q)) (fun w s' z => ?_) fun _ _ x => x)
    obtain ⟨z', H', I', rz, r, rfl, qz⟩ := z
    obtain ⟨t, rfl⟩ := (show ∃ t, w = Value.str r t from rz)
    exact ⟨.str r, H', I', ⟨t, rfl⟩, qz⟩
  refine ⟨_, ur, fun M H vs Q mt hv k => ?_⟩
  obtain ⟨v, rfl, hw⟩ := rs1 hv
  have hv0 := hw
  obtain ⟨ad, C', dx, xs, rfl, _, hm', ho, hl, rs⟩ := r_obj hw
  rw [hm] at hm'; cases hm'
  refine ⟨ad, dx, _, rfl, ho, pu_use i hp mt (by rw [← hds]; exact .cons hv0 .nil) fun v H' x r => ?_⟩
  rw [hb] at r
  exact ⟨t, by simpa [R] using r, k _ H' x (by simp [R])⟩
/-! ### instances that change -/
/-- o.m(..), o a thing that may change -/
theorem e_mc {ad : Addr} {cn : Str} {ns : List Str} {mc' : MC} {pl : Sem Bool} (F : Mth X.prog X.w X.K X.mg X.base cn m k (fnSp X.K X.mg pre args cz res cz')) (hr : Room k X.A) (ho : EE X M e cs o (.ref ad) cs) (hin : (ad, MC.obj cn ns ds) ∈ cs) (ha : EA X M e cs (a :: es) es' cs1) (hnm : m ∉ ns) (i : ι) (hp : pre i) (hds : .ref ad :: es' = args i) {mc : MC} (h1 : cz i = [(ad, mc)]) (h2 : cz' i = [(ad, mc')]) (hu : Upd1 ad mc mc' cs1 cs2) (hd : res i = d := by rfl)
    (hst : starEach (a :: es) X.env = (false, eval a X.env) :: starEach es X.env := by rfl) (hpl : (backTo pos (starEach es X.env)).any (·.1) = false := by rfl)
    (ht : eval (.Call (.Attribute o m apos) (a :: es) [] pos) X.env = (do
      let ov ← eval o X.env
      standAt apos.atName
      let (f, first) ← holding [ov] (getMethod ov m pl)
      callWith pos f first (backTo pos (starEach (a :: es) X.env)) (backToKw pos (keywordEach [] X.env))) := by rfl) : EE X M e cs (.Call (.Attribute o m apos) (a :: es) [] pos) d cs2 where
  dm := hu.dm.trans ha.dm
  k := fun σ H Q S k => by
    obtain ⟨C, f, hm, hc, hmt, F⟩ := F.ex
    refine we_of (pe_methR (E := E0) pe_w hc hmt F hr passL pa_w hst hpl ht) (ho.k σ H _ S fun v H1 S1 x1 r1 => ?_)
    simp only [R] at r1
    subst r1
    obtain ⟨_, C', dx, xs, hm', hob, hl, rs⟩ := S1.cel _ hin
    rw [hm] at hm'; cases hm'
    refine ⟨ad, dx, _, rfl, hob, zip_lookup_none hnm, ha.k σ H1 _ S1 fun vs H2 S2 x2 r2 => ?_⟩
    subst hd
    refine sp_use i hp S2 (by rw [← hds]; exact .cons (by simp [R]) r2) (by rw [h1]; simpa using hu.mem) (by rw [h1]; simp) hu.dm (fun q hq => ?_) fun v H' S3 x3 r3 => k v H' S3 ((x1.trans x2).trans (by rw [← ha.dm]; exact x3)) r3
    rw [h1, h2]
    rcases hu.of S2.nd q hq with z | ⟨z1, z2⟩
    · exact .inl (by simp [z])
    · exact .inr ⟨z1, by simpa using z2⟩
theorem e_mc0 {ad : Addr} {cn : Str} {ns : List Str} {mc' : MC} {pl : Sem Bool} (F : Mth X.prog X.w X.K X.mg X.base cn m k (fnSp X.K X.mg pre args cz res cz')) (hr : Room k X.A) (ho : EE X M e cs o (.ref ad) cs) (hin : (ad, MC.obj cn ns ds) ∈ cs) (hnm : m ∉ ns) (i : ι) (hp : pre i) (hds : [.ref ad] = args i) {mc : MC} (h1 : cz i = [(ad, mc)]) (h2 : cz' i = [(ad, mc')]) (hu : Upd1 ad mc mc' cs cs2) (hd : res i = d := by rfl)
    (ht : eval (.Call (.Attribute o m apos) [] [] pos) X.env = (do
      let ov ← eval o X.env
      standAt apos.atName
      let (f, first) ← holding [ov] (getMethod ov m pl)
      callWith pos f first (backTo pos (starEach [] X.env)) (backToKw pos (keywordEach [] X.env))) := by rfl) : EE X M e cs (.Call (.Attribute o m apos) [] [] pos) d cs2 where
  dm := hu.dm
  k := fun σ H Q S k => by
    obtain ⟨C, f, hm, hc, hmt, F⟩ := F.ex
    refine we_of (pe_methR0 (E := E0) pe_w hc hmt F hr passL ht) (ho.k σ H _ S fun v H1 S1 x1 r1 => ?_)
    simp only [R] at r1
    subst r1
    obtain ⟨_, C', dx, xs, hm', hob, hl, rs⟩ := S1.cel _ hin
    rw [hm] at hm'; cases hm'
    subst hd
    refine ⟨ad, dx, _, rfl, hob, zip_lookup_none hnm, ?_⟩
    refine sp_use i hp S1 (by rw [← hds]; exact .cons (by simp [R]) .nil) (by rw [h1]; simpa using hu.mem) (by rw [h1]; simp) hu.dm (fun q hq => ?_) fun v H' S3 x3 r3 => k v H' S3 (x1.trans x3) r3
    rw [h1, h2]
    rcases hu.of S1.nd q hq with z | ⟨z1, z2⟩
    · exact .inl (by simp [z])
    · exact .inr ⟨z1, by simpa using z2⟩
/-- o.f += n, o a thing that may change -/
theorem at_fldaug {ad C : Addr} {cn : Str} {ns : List Str} {i j : Int} {tp : Pos} (q : Nat) (ho : EE X M e cs o (.ref ad) cs) (hv : EE X M e cs ex (.int j) cs) (hm : X.mg cn = some (.ref C)) (hcl : Cls X.K C) (hn : NoAttr X.K C m) (hlen : ns.length < 900) (hi : ns.idxOf? m = some q) (hq : ds[q]? = some (.int i)) (hu : Upd1 ad (.obj cn ns ds) (.obj cn ns (ds.set q (.int (i + j)))) cs cs2)
    (k : At X M e cs2 fr (wSs X rest D0)) : At X M e cs fr (wSs X (.AugAssign (.Attribute o m tp) .Add ex pos :: rest) D0) := fun σ H S x l =>
  wss_of (pss_cons (ps_fldaug pe_w pe_w in_add) pss_w) (ho.k σ H _ S fun v H1 S1 x1 r1 => by
    simp only [R] at r1
    subst r1
    obtain ⟨mm, C', dx, xs, hm', h3, hl, rs⟩ := S1.cel _ hu.mem
    rw [hm] at hm'; cases hm'
    obtain ⟨w, hw, rw'⟩ := rs.get hq
    simp only [R] at rw'
    subst rw'
    refine ⟨ad, C, dx, ns.zip xs, .int i, rfl, h3, hcl, hn, zip_lookup hi hw, hv.k σ H1 _ S1 fun u H2 S2 x2 r2 => ?_⟩
    simp only [R] at r2
    subst r2
    obtain ⟨mm, C', dx2, xs2, hm', h4, hl2, rs2⟩ := S2.cel _ hu.mem
    rw [hm] at hm'; cases hm'
    refine ⟨i, j, rfl, rfl, dx2, ns.zip xs2, h4, by rw [List.length_zip]; omega, ?_⟩
    rw [putF_at hi hl2.symm]
    have hnm : ∀ b o, ¬ M b → H2 b = some o → upd H2 ad (.ins C dx2 (ns.zip (xs2.set q (.int (i + j))))) b = some o := fun b o nb h => by rw [upd_ne (fun z => nb (by rw [z]; exact mm))]; exact h
    refine k σ _ (sit_put S2 hu ⟨C, dx2, _, hm, upd_same, by simp [hl2], Rs.ext hnm (fun _ n _ => n) _ (rs2.set q (by simp [R]))⟩) ?_ (lo_of l hu.dm)
    exact ext_on (ext_on (ext_on x l x1) l x2) l (ext_put hu.dom))
theorem R.of_flat {K : PySem.W.Frag} {mg : Str → Option Value} {H : Hp} : ∀ {d : D} {v : V}, Od.flat d = some v → R K mg M H v d
  | .non, v, h => by simp [Od.flat] at h; simp [R, ← h]
  | .bl _, v, h => by simp [Od.flat] at h; simp [R, ← h]
  | .int _, v, h => by simp [Od.flat] at h; simp [R, ← h]
  | .str _, v, h => by simp [Od.flat] at h; simp [R, ← h]
  | .ref _, v, h => by simp [Od.flat] at h
  | .ty _, v, h => by simp [Od.flat] at h
  | .lst _, v, h => by simp [Od.flat] at h
  | .tup _, v, h => by simp [Od.flat] at h
  | .obj _ _ _, v, h => by simp [Od.flat] at h
  | .dic _ _, v, h => by simp [Od.flat] at h
  | .scr _, v, h => by simp [Od.flat] at h
  | .lam _, v, h => by simp [Od.flat] at h
  | .exc _ _ _ _, v, h => by simp [Od.flat] at h
theorem Rs.of_flats {K : PySem.W.Frag} {mg : Str → Option Value} {H : Hp} : ∀ {ds : List D} {vs ws : List V}, Od.flats ds = some ws → vs = ws → Rs K mg M H vs ds
  | [], vs, ws, h, e => by simp [Od.flats] at h; subst e h; exact Rs.nil
  | d :: ds, vs, ws, h, e => by
    unfold Od.flats at h
    cases q1 : Od.flat d with
    | none => rw [q1] at h; cases h
    | some w =>
      rw [q1] at h
      cases q2 : Od.flats ds with
      | none => rw [q2] at h; cases h
      | some w2 =>
        rw [q2] at h
        cases h
        subst e
        exact .cons (R.of_flat q1) (Rs.of_flats q2 rfl)
/-- x = C(..), an instance that changes from here on; its fields are plain -/
theorem at_setC {cn : Str} {ns : List Str} {dz : ι → List D} {dx : List D} {ws : List V} (i : Nat) (F : Mkr X.prog X.w X.K X.mg X.base cn k (mkSp X.K X.mg cn pre args ns dz)) (hr : Room (k + 1) X.A) (ha : EA X M e cs (a :: es) dx cs) (j : ι) (hp : pre j) (hds : dx = args j) (hfl : flats (dz j) = some ws)
    (kk : ∀ q, At X (fun b => M b ∨ b = q) (e.set i (some (.ref q))) ((q, .obj cn ns (dz j)) :: cs) fr (wSs X rest D0)) (hN : X.N.Nodup) (hi : X.N[i]? = some n := by rfl) (hx : Loc X.env.scope n := by first | exact .inl rfl | exact .inr rfl) (hg : Gl X cn := by rfl)
    (hf : X.fn n = true ∨ X.env.scope.names.lookup n = some .local := by first | exact .inl rfl | exact .inr rfl) (hdb : (cn == ("__debug__" : Str)) = false := by decide) (he : starEach (a :: es) X.env = (false, eval a X.env) :: starEach es X.env := by rfl) (hpl : (backTo pos (starEach es X.env)).any (·.1) = false := by rfl)
    {spos : Pos} (hs2 : swapsWith (.Call (.Name cn p) (a :: es) [] pos) (some (.Name n pos')) spos.line X.env = pure false := by rfl) : At X M e cs fr (wSs X (.Assign [.Name n pos'] (.Call (.Name cn p) (a :: es) [] pos) spos :: rest) D0) := fun σ H S xx l => by
  obtain ⟨C, f, hm, hmk, F⟩ := F.ex
  refine wss_of (pss_cons (ps_set hN hi hx (StX.pe_makeR (E := E0) hmk F hr hg hm passL pa_w hdb he hpl) hs2 hf) pss_w) (ha.k σ H _ S fun vs H1 S1 x1 r1 xa dx hxa hdx hne => ?_)
  subst hds
  have ke : ∀ a o, H1 a = some o → upd (upd H1 dx (.own xa)) xa (.ins C dx []) a = some o := fun a o h => by
    rw [upd_ne (ne_of_none h hxa), upd_ne (ne_of_none h hdx)]; exact h
  have tr : ∀ a, H1 a ≠ none → upd (upd H1 dx (.own xa)) xa (.ins C dx []) a ≠ none := fun a h => by
    cases q : H1 a with
    | none => exact absurd q h
    | some o => rw [ke a o q]; simp
  refine ⟨M, j, xa, C, dx, vs, hp, rfl, hm, upd_same, new_m S1.mt hxa, fun a ma => tr a (S1.mt a ma), Rs.ext (fun a o _ h => ke a o h) (fun a n h z => z.elim n fun z => h (z ▸ hxa)) _ r1, fun H' mt xt ro => ⟨rfl, ?_⟩⟩
  have xt' : Ext [] H1 H' := fun a o h _ => xt a o (ke a o h) (by simpa using ne_of_none h hxa)
  have kp : ∀ b o, H1 b = some o → H' b = some o := fun b o h => xt' b o h (by simp)
  have mr : ∀ b, ¬ M b → H1 b ≠ none → ¬ (M b ∨ b = xa) := fun b h1 h2 z => z.elim h1 fun z => h2 (z ▸ hxa)
  unfold R at ro
  obtain ⟨q, C', dq, xs, eq, nq, hm', hq, hl, rs⟩ := ro
  cases eq
  rw [hm] at hm'; cases hm'
  have exs := rs.flats hfl
  have rs2 : Rs X.K X.mg (fun b => M b ∨ b = xa) H' xs (dz j) := Rs.of_flats hfl (by rw [exs])
  have S2 : Sit X.K X.mg (fun b => M b ∨ b = xa) σ H' e ((xa, .obj cn ns (dz j)) :: cs) := by
    refine ⟨fun b mb => ?_, S1.len, fun i d hd => ?_, fun c hc => ?_, ?_⟩
    · rcases mb with mb | rfl
      · exact mt b mb
      · rw [hq]; simp
    · obtain ⟨v, e1, r⟩ := S1.env i d hd
      exact ⟨v, e1, R.ext (fun b o _ h => kp b o h) mr _ r⟩
    · rcases List.mem_cons.mp hc with rfl | hc
      · exact ⟨.inr rfl, C, dq, xs, hm, hq, hl, rs2⟩
      · obtain ⟨m, c2⟩ := S1.cel c hc
        exact ⟨.inl m, c2.ext (fun b o _ h => kp b o h) mr fun o h => kp _ o h⟩
    · show (xa :: cs.map (·.1)).Nodup
      refine List.nodup_cons.mpr ⟨fun z => ?_, S1.nd⟩
      obtain ⟨c, hc, e⟩ := List.mem_map.mp z
      exact (S1.cel c hc).2.ne (e ▸ hxa)
  refine kk xa _ H' (S2.set i (by simp [R])) ?_ ?_
  · exact ext_on (ext_on xx l x1) l (xt'.mono (by simp))
  · intro f0 hf0 b hb
    rcases List.mem_cons.mp hb with rfl | hb
    · by_cases h : b ∈ f0.1
      · exact .inl h
      · right
        cases z : f0.2 b with
        | none => rfl
        | some o =>
          have := (ext_on xx l x1) f0 hf0 b o z h
          rw [this] at hxa; cases hxa
    · exact l f0 hf0 b hb
end
end Od

set_option Elab.async false
set_option linter.all false
set_option maxRecDepth 100000
set_option maxHeartbeats 4000000
/-! Od15: f'a{x}b', s.startswith(t, i), f(k=v) -/
namespace Od
open PySem L2 TL PySem.Spec
section
variable {X : Cx} {M : Addr → Prop} {e : DE} {cs cs1 cs2 cs3 : Cs} {pos p pos' apos p1 p2 p3 : Pos} {tg a b c ex o : Expr} {es : List Expr} {d x y z : D} {ds es' : List D} {n m : Str} {k j : Nat}
/-- f'a{x}b' -/
theorem e_fstr3 {s t u : Str} {i1 i2} (ha : EE X M e cs ex (.str t) cs1) (hl : s.length + t.length + u.length ≤ 100000) : EE X M e cs (.JoinedStr [.Constant (.str s) i1 p1, .FormattedValue ex (-1) none p2, .Constant (.str u) i2 p3] pos) (.str (s ++ t ++ u)) cs1 where
  dm := ha.dm
  k := fun σ H Q S k => by
    have z : ∀ n : Nat, n ≤ 100000 → n ≤ sizeLine := fun n h => Nat.le_trans h (by decide)
    have e0 : ∀ w : Str, (Str.empty : Str) ++ w = w := fun w => ext_tl (by
      show (Str.empty.cps ++ w.cps).toList = w.cps.toList
      simp [Str.empty])
    have la : ∀ v w : Str, (v ++ w).length = v.length + w.length := fun v w => by
      rw [len_tl, len_tl, len_tl]
      show ((v.cps ++ w.cps).toList).length = _
      simp
    refine we_of (pe_joined (.cons pe_str (.cons (pe_fmt pe_w) (.cons pe_str .nil)))) ⟨s, rfl, z _ (by rw [la]; show 0 + _ ≤ _; omega), ha.k σ H _ S fun v H1 S1 x1 r1 => ?_⟩
    simp only [R] at r1
    refine .inl ⟨t, r1, z _ (by omega), t, rfl, z _ (by rw [la, la]; show 0 + _ + _ ≤ _; omega), u, rfl, z _ (by rw [la, la, la]; show 0 + _ + _ + _ ≤ _; omega), k _ H1 S1 x1 ?_⟩
    simp only [R]
    rw [e0]
/-- s.startswith(t, i) -/
theorem e_sw {s t : Str} {i : Int} (ho : EE X M e cs o (.str s) cs1) (ha : EE X M e cs1 a (.str t) cs2) (hb : EE X M e cs2 b (.int i) cs3)
    (h1 : ∀ ta, PA X [a, b] ta → PE X (.Call (.Attribute o "startswith" apos) [a, b] [] pos) (tBM X.K "str" (fun x xs H Q => ∃ (a b : Str) (i : Int), x = .str a ∧ xs = [.str b, .int i] ∧ Q (.bl (Txt.startswith3 a b i)) H) (wE X o) ta) := by intro ta hta; exact pe_bm PySem.F.plainAttrs_str PySem.F.slot_str_startswith PySem.F.type_str_startswith mt_startswith3 pe_w hta)
    (he : starEach [a, b] X.env = (false, eval a X.env) :: starEach [b] X.env := by rfl) (he2 : starEach [b] X.env = (false, eval b X.env) :: starEach [] X.env := by rfl) : EE X M e cs (.Call (.Attribute o "startswith" apos) [a, b] [] pos) (.bl (Txt.startswith3 s t i)) cs3 where
  dm := hb.dm.trans (ha.dm.trans ho.dm)
  k := fun σ H Q S k => by
    refine we_of (h1 _ pa_w) (ho.k σ H _ S fun v H1 S1 x1 r1 => ?_)
    simp only [R] at r1
    subst r1
    refine ⟨by first | exact tyV_str _ | exact .str _ | exact ⟨_, rfl⟩ | trivial | rfl, (a_cons ha (a_cons hb a_nil he2) he).k σ H1 _ S1 fun vs H2 S2 x2 r2 => ?_⟩
    obtain ⟨v, u, rfl, r3, r4⟩ := rs2 r2
    simp only [R] at r3 r4
    subst r3 r4
    exact ⟨s, t, i, rfl, rfl, k _ H2 S2 (x1.trans (by rw [← ho.dm]; exact x2)) (by simp [R])⟩
/-- a def of the module, called by a keyword -/
structure DfnK (P : Program) (w : World) (K : PySem.W.Frag) (mg : Str → Option Value) (base : Heap) (n kw : Str) (k : Nat) (sp : Sp) : Prop where
  ex : ∃ f fd ps, mg n = some (.ref f) ∧ PySem.W.keepIn K (.ref f) = true ∧ FnOk P w K mg base (L2.CX P w) k f fd ps sp ∧ KBinds K fd ps [kw] (fun us ws => us ++ ws) (fun vs zs => vs ++ zs)
variable {ι : Type} {pre : ι → Prop} {args : ι → List D} {res : ι → D}
/-- f(k=v) -/
theorem e_callK {kw : String} {kp : Pos} (F : DfnK X.prog X.w X.K X.mg X.base n (Str.ofString kw) k (puSp X.K X.mg pre args res)) (hr : Room k X.A) (ha : EE X M e cs a x cs1) (i : ι) (hp : pre i) (hds : [x] = args i) (hd : res i = d := by rfl) (hg : Gl X n := by rfl) (hdb : (n == ("__debug__" : Str)) = false := by decide)
    (hall : (backToKw pos (keywordEach [⟨some kw, a, kp⟩] X.env)).all (·.1.isSome) = true := by rfl) (hks : (backToKw pos (keywordEach [⟨some kw, a, kp⟩] X.env)).filterMap (·.1) = [Str.ofString kw] := by rfl)
    (hpl : ((backTo pos (starEach [] X.env)).any (·.1) || (backToKw pos (keywordEach [⟨some kw, a, kp⟩] X.env)).any (·.1.isNone)) = false := by rfl) : EE X M e cs (.Call (.Name n p) [] [⟨some kw, a, kp⟩] pos) d cs1 where
  dm := ha.dm
  k := fun σ H Q S k => by
    obtain ⟨f, fd, ps, hm, hk, F, kb⟩ := F.ex
    have pe : PE X (.Call (.Name n p) [] [⟨some kw, a, kp⟩] pos) (fun σ H Q => tCons (wE X a) tNil σ H fun zs H2 => puSp X.K X.mg pre args res zs H2 Q E0) := by
      refine ⟨fun pins s σ H Q I h => ?_⟩
      refine wpAny_Call_Name_kw (ld_glob I hg hm ?_ hdb)
      refine PySem.W.callWith_KW0 (h₀ := X.base) I.ok.mod.kin hk hall (thn ((pk_cons pe_w pk_nil).run pos pins s σ H _ I h) fun ws s2 ⟨zs, H2, I2, rz, q2⟩ => ⟨I2.kIn, ?_⟩) hpl
      rw [hks]
      exact run_fnk (us := []) (vs := []) F hr kb passL I2 .nil rz q2
    refine we_of pe (ha.k σ H _ S fun v H1 S1 x1 r1 => ?_)
    subst hd
    show puSp X.K X.mg pre args res [v] H1 Q E0
    exact sp_use i hp S1 (by rw [← hds]; exact .cons r1 .nil) (by simp) (by simp) rfl (fun q hq => .inr ⟨hq, by simp⟩) fun v H' S2 x2 r2 => k v H' S2 (x1.trans (by rw [← ha.dm]; exact x2)) r2
end
end Od

set_option Elab.async false
set_option linter.all false
set_option maxRecDepth 100000
set_option maxHeartbeats 4000000
/-! Od16: {k: v, ..}[x] of texts -/
namespace Od
open PySem L2 TL PySem.Spec
section
variable {X : Cx} {M : Addr → Prop} {e : DE} {cs cs1 : Cs} {pos pd p1 p2 p3 p4 p5 p6 : Pos} {b : Expr}
theorem dix_core {keys : List (Option Expr)} {values : List Expr} {trs : List (TE × TE)} {s t : Str} {kvs : List (Key × V)} (hpp : PPs X pd keys values trs) (hall : keys.all (·.isSome) = true) (hl : keys.length = values.length) (h0 : keys ≠ []) (h15 : keys.length ≤ 15)
    (htr : ∀ (σ : L2.St) (H : Hp) (Q : List (V × V) → Hp → Prop), Q (kvs.map fun kv => (kV kv.1, kv.2)) H → tPairs trs σ H Q) (hlen : kvs.length ≤ 15) (hb : EE X M e cs b (.str s) cs1) (hv : valV (mergeK [] kvs) (Sum.inr s : Key) = some (.str t)) (hu : X.A.units + 1 < cLine) (hs : NoSl b) : EE X M e cs (.Subscript (.Dict keys values pd) b pos) (.str t) cs1 where
  dm := hb.dm
  k := fun σ H Q S k => by
    refine we_of (pe_dget hu (pe_disp hpp hall hl h0 h15) pe_w hs) (fun p hp => htr _ _ _ ⟨upd_same, kvs, rfl, hlen, ?_⟩)
    have x1 : Ext [] H (upd (upd H p (.dK [])) p (.dK (mergeK [] kvs))) := fun a o h _ => by
      rw [upd_ne (ne_of_none h hp), upd_ne (ne_of_none h hp)]; exact h
    have S1 := S.ex x1
    have hnd : p ∉ dom cs := fun z => by
      obtain ⟨q, hq, e⟩ := List.mem_map.mp z
      exact (S.cel q hq).2.ne (e ▸ hp)
    refine hb.k σ _ _ S1 fun v H2 S2 x2 r2 => ?_
    simp only [R] at r2
    subst r2
    have h2 : H2 p = some (.dK (mergeK [] kvs)) := x2 p _ upd_same hnd
    refine ⟨p, .str t, rfl, ?_, k _ H2 S2 ((x1.mono (by simp)).trans x2) (by simp [R])⟩
    have := DGet.k (k := (Sum.inr s : Key)) h2
    rw [hv] at this
    exact this
theorem e_dix2 {k1 v1 k2 v2 s t : Str} {i1 i2 i3 i4} (hb : EE X M e cs b (.str s) cs1) (hv : valV (mergeK [] [((Sum.inr k1 : Key), V.str v1), (Sum.inr k2, .str v2)]) (Sum.inr s : Key) = some (.str t)) (hu : X.A.units + 1 < cLine) (hs : NoSl b := by intro _ _; rfl) : EE X M e cs (.Subscript (.Dict [some (.Constant (.str k1) i1 p1), some (.Constant (.str k2) i2 p2)] [.Constant (.str v1) i3 p3, .Constant (.str v2) i4 p4] pd) b pos) (.str t) cs1 :=
  dix_core (pps_cons pe_str pe_str (pps_cons pe_str pe_str pps_nil)) rfl rfl (by simp) (by simp) (kvs := [((Sum.inr k1 : Key), V.str v1), (Sum.inr k2, .str v2)]) (fun σ H Q q => q) (by simp) hb hv hu hs
theorem e_dix3 {k1 v1 k2 v2 k3 v3 s t : Str} {i1 i2 i3 i4 i5 i6} (hb : EE X M e cs b (.str s) cs1) (hv : valV (mergeK [] [((Sum.inr k1 : Key), V.str v1), (Sum.inr k2, .str v2), (Sum.inr k3, .str v3)]) (Sum.inr s : Key) = some (.str t)) (hu : X.A.units + 1 < cLine) (hs : NoSl b := by intro _ _; rfl) : EE X M e cs (.Subscript (.Dict [some (.Constant (.str k1) i1 p1), some (.Constant (.str k2) i2 p2), some (.Constant (.str k3) i3 p3)] [.Constant (.str v1) i4 p4, .Constant (.str v2) i5 p5, .Constant (.str v3) i6 p6] pd) b pos) (.str t) cs1 :=
  dix_core (pps_cons pe_str pe_str (pps_cons pe_str pe_str (pps_cons pe_str pe_str pps_nil))) rfl rfl (by simp) (by simp) (kvs := [((Sum.inr k1 : Key), V.str v1), (Sum.inr k2, .str v2), (Sum.inr k3, .str v3)]) (fun σ H Q q => q) (by simp) hb hv hu hs
end
end Od

set_option Elab.async false
set_option linter.all false
set_option maxRecDepth 100000
set_option maxHeartbeats 4000000
/-! Od17: lists that grow: x = [..], x.append(v), x.insert(i, v), return x -/
namespace Od
open PySem L2 TL PySem.Spec
section
variable {X : Cx} {M : Addr → Prop} {e : DE} {cs cs1 cs2 cs3 : Cs} {fr : Frs} {D0 : Ends} {pos p pos' apos : Pos} {a b c ex o : Expr} {es : List Expr} {rest : List Stmt} {d x y z : D} {ds es' : List D} {n m : Str} {k j : Nat}
/-- what a method of a list does to a cell -/
theorem lst_meth {ad : Addr} {args : List Expr} {as : List D} {ds' : List D} (r : V → List V → Hp → VK → Prop) (hpe : ∀ ta, PA X args ta → PE X (.Call (.Attribute o m apos) args [] pos) (tBM X.K "list" r (wE X o) ta)) (ho : EE X M e cs o (.ref ad) cs) (hin : ∃ ds0, (ad, MC.lst ds0) ∈ cs) (ha : EA X M e cs args as cs1) (hu : Upd1 ad (.lst ds) (.lst ds') cs1 cs2)
    (hr : ∀ (xs vs : List V) (H : Hp) (Q : VK), H ad = some (.lst xs) → Rs X.K X.mg M H xs ds → Rs X.K X.mg M H vs as → (∀ ys, Rs X.K X.mg M H ys ds' → Q .non (upd H ad (.lst ys))) → r (.ref ad) vs H Q) : EE X M e cs (.Call (.Attribute o m apos) args [] pos) .non cs2 where
  dm := hu.dm.trans ha.dm
  k := fun σ H Q S k => by
    refine we_of (hpe _ pa_w) (ho.k σ H _ S fun v H1 S1 x1 r1 => ?_)
    simp only [R] at r1
    subst r1
    obtain ⟨ds0, hin⟩ := hin
    obtain ⟨_, xs0, h0, _⟩ := cell_lst S1 hin
    refine ⟨.inl ⟨rfl, xs0, .of h0⟩, ha.k σ H1 _ S1 fun vs H2 S2 x2 r2 => ?_⟩
    obtain ⟨mm, xs, h3, rs⟩ := cell_lst S2 hu.mem
    refine hr xs vs H2 Q h3 rs r2 fun ys rys => ?_
    have hnm : ∀ b o, ¬ M b → H2 b = some o → upd H2 ad (.lst ys) b = some o := fun b o nb h => by rw [upd_ne (fun z => nb (by rw [z]; exact mm))]; exact h
    exact k _ _ (sit_put S2 hu ⟨ys, upd_same, Rs.ext hnm (fun _ n _ => n) _ rys⟩) ((x1.trans x2).trans (by rw [← ha.dm]; exact ext_put hu.dom)) (by simp [R])
/-- x.append(v) -/
theorem e_app {ad : Addr} (ho : EE X M e cs o (.ref ad) cs) (hin : ∃ ds0, (ad, MC.lst ds0) ∈ cs) (ha : EE X M e cs a d cs1) (hu : Upd1 ad (.lst ds) (.lst (ds ++ [d])) cs1 cs2) (hl : ds.length < 100000)
    (hs : starEach [a] X.env = (false, eval a X.env) :: starEach [] X.env := by rfl)
    (hpe : ∀ ta, PA X [a] ta → PE X (.Call (.Attribute o "append" apos) [a] [] pos) (tBM X.K "list" rAppend (wE X o) ta) := by intro ta h; exact pe_bm PySem.F.plainAttrs_list PySem.F.slot_list_append PySem.F.type_list_append mt_append pe_w h) : EE X M e cs (.Call (.Attribute o "append" apos) [a] [] pos) .non cs2 :=
  lst_meth _ hpe ho hin (a_cons ha a_nil hs) hu fun xs vs H Q h rs rv k => by
    obtain ⟨v, rfl, rw'⟩ := rs1 rv
    exact ⟨ad, xs, v, rfl, rfl, h, by rw [rs.length]; exact Nat.lt_of_lt_of_le hl (by decide), k _ (rs.append (.cons rw' .nil))⟩
/-- x.insert(i, v) -/
theorem e_ins {ad : Addr} {i : Int} (ho : EE X M e cs o (.ref ad) cs) (hin : ∃ ds0, (ad, MC.lst ds0) ∈ cs) (ha : EE X M e cs a (.int i) cs1) (hb : EE X M e cs1 b d cs2) (hu : Upd1 ad (.lst ds) (.lst (ds.take i.toNat ++ [d] ++ ds.drop i.toNat)) cs2 cs3) (hl : ds.length < 100000) (hi : 0 ≤ i ∧ i < 2 ^ 63)
    (hs : starEach [a, b] X.env = (false, eval a X.env) :: starEach [b] X.env := by rfl) (hs2 : starEach [b] X.env = (false, eval b X.env) :: starEach [] X.env := by rfl)
    (hpe : ∀ ta, PA X [a, b] ta → PE X (.Call (.Attribute o "insert" apos) [a, b] [] pos) (tBM X.K "list" (fun x vs H Q => ∃ (l : Addr) (xs : List V) (i : Int) (y : V), x = .ref l ∧ vs = [.int i, y] ∧ H l = some (.lst xs) ∧ xs.length < sizeLine ∧ 0 ≤ i ∧ i < 2 ^ 63 ∧ Q .non (upd H l (.lst (xs.take i.toNat ++ [y] ++ xs.drop i.toNat)))) (wE X o) ta) := by intro ta h; exact pe_bm PySem.F.plainAttrs_list PySem.F.slot_list_insert PySem.F.type_list_insert mt_insert pe_w h) : EE X M e cs (.Call (.Attribute o "insert" apos) [a, b] [] pos) .non cs3 :=
  lst_meth _ hpe ho hin (a_cons ha (a_cons hb a_nil hs2) hs) hu fun xs vs H Q h rs rv k => by
    obtain ⟨v, u, rfl, r1, r2⟩ := rs2 rv
    simp only [R] at r1
    subst r1
    exact ⟨ad, xs, i, u, rfl, rfl, h, by rw [rs.length]; exact Nat.lt_of_lt_of_le hl (by decide), hi.1, hi.2, k _ ((rs.take _ |>.append (.cons r2 .nil)).append (rs.drop _))⟩
/-- x = [..], a list that changes from here on -/
theorem at_setL (i : Nat) (ha : EA X M e cs es ds cs1) (hl : ds.length ≤ 100000) (kk : ∀ q, ¬ M q → At X (fun b => M b ∨ b = q) (e.set i (some (.ref q))) ((q, .lst ds) :: cs1) fr (wSs X rest D0)) (hN : X.N.Nodup) (hi : X.N[i]? = some n := by rfl) (hx : Loc X.env.scope n := by first | exact .inl rfl | exact .inr rfl)
    (hs : swapsWith (.List es pos) (some (.Name n pos')) p.line X.env = pure false := by rfl) (hf : X.fn n = true ∨ X.env.scope.names.lookup n = some .local := by first | exact .inl rfl | exact .inr rfl) : At X M e cs fr (wSs X (.Assign [.Name n pos'] (.List es pos) p :: rest) D0) := fun σ H S xx l =>
  wss_of (pss_cons (ps_set hN hi hx (pe_lst pa_w) hs hf) pss_w) (ha.k σ H _ S fun vs H1 S1 x1 r1 => ⟨by rw [r1.length]; exact Nat.le_trans hl (by decide), fun q hq => by
    have kp : ∀ b o, H1 b = some o → upd H1 q (.lst vs) b = some o := fun b o h => by rw [upd_ne (ne_of_none h hq)]; exact h
    have mr : ∀ b, ¬ M b → H1 b ≠ none → ¬ (M b ∨ b = q) := fun b h1 h2 z => z.elim h1 fun z => h2 (z ▸ hq)
    have S2 := S1.mark (p := q) (o := .lst vs) hq
    have S3 : Sit X.K X.mg (fun b => M b ∨ b = q) σ (upd H1 q (.lst vs)) e ((q, .lst ds) :: cs1) := by
      refine ⟨S2.mt, S2.len, S2.env, fun c hc => ?_, ?_⟩
      · rcases List.mem_cons.mp hc with rfl | hc
        · exact ⟨.inr rfl, vs, upd_same, Rs.ext (fun b o _ h => kp b o h) mr _ r1⟩
        · exact S2.cel c hc
      · show (q :: cs1.map (·.1)).Nodup
        refine List.nodup_cons.mpr ⟨fun z => ?_, S1.nd⟩
        obtain ⟨c, hc, e⟩ := List.mem_map.mp z
        exact (S1.cel c hc).2.ne (e ▸ hq)
    refine kk q (new_m S1.mt hq) _ _ (S3.set i (by simp [R])) ?_ ?_
    · have l1 : Lo fr cs1 := lo_of l ha.dm
      exact ext_on (ext_on xx l x1) l1 (Ext.new hq)
    · intro f0 hf0 b hb
      rcases List.mem_cons.mp hb with rfl | hb
      · by_cases h : b ∈ f0.1
        · exact .inl h
        · right
          cases z : f0.2 b with
          | none => rfl
          | some o =>
            have := (ext_on xx l x1) f0 hf0 b o z h
            rw [this] at hq; cases hq
      · exact (lo_of l ha.dm) f0 hf0 b hb⟩)
/-- return x, a list of one's own, with nothing more to change it -/
theorem at_doneC {M0 : Addr → Prop} {q : Addr} {c2 : Cs} {H0 : Hp} {A0 : List Addr} {ex : Expr} (ho : EE X (fun b => M0 b ∨ b = q) e ((q, MC.lst ds) :: c2) ex (.ref q) ((q, MC.lst ds) :: c2)) (nq : ¬ M0 q) (hfr : (A0, H0) ∈ fr)
    (kq : ∀ v H', (∀ a, M0 a → H' a ≠ none) → Ext A0 H0 H' → (∀ p ∈ c2, M0 p.1 ∧ Cell X.K X.mg M0 H' p.1 p.2) → R X.K X.mg M0 H' v (.lst ds) → D0.rt v H') : At X (fun b => M0 b ∨ b = q) e ((q, MC.lst ds) :: c2) fr (wSs X (.Return (some ex) pos :: rest) D0) :=
  at_ret ho fun σ H v S x r => by
    simp only [R] at r
    subst r
    obtain ⟨_, xs, hq, rs⟩ := cell_lst S List.mem_cons_self
    have nd := (List.nodup_cons.mp (show (q :: c2.map (·.1)).Nodup from S.nd)).1
    refine kq _ H (fun a m => S.mt a (.inl m)) (x _ hfr) (fun p hp => ?_) ?_
    · obtain ⟨m, c⟩ := S.cel p (List.mem_cons_of_mem _ hp)
      have hne : p.1 ≠ q := fun z => nd (z ▸ List.mem_map_of_mem (f := (·.1)) hp)
      exact ⟨m.resolve_right hne, c.ext (fun a o _ h => h) (fun a n _ z => n (.inl z)) fun o h => h⟩
    · unfold R
      exact ⟨q, xs, rfl, nq, hq, Rs.ext (fun a o _ h => h) (fun a n _ z => n (.inl z)) _ rs⟩
end
end Od

set_option Elab.async false
set_option linter.all false
set_option maxRecDepth 100000
set_option maxHeartbeats 4000000
/-! Od18: dicts as values: {"k": v, ..}, d.get(s, y), d[s], s in d -/
namespace Od
open PySem L2 TL PySem.Spec
def dvl : List Key → List D → Key → Option D
  | k :: ks, d :: ds, x => if k = x then some d else dvl ks ds x
  | _, _, _ => none
section
variable {X : Cx} {M : Addr → Prop} {e : DE} {cs cs1 cs2 cs3 : Cs} {pos p pos' apos : Pos} {a b c ex o : Expr} {es : List Expr} {d x y z : D} {ds es' : List D} {n m : Str}
theorem dvl_rel {M : Addr → Prop} {H : Hp} {k : Key} : ∀ {ks : List Key} {xs : List V} {ds : List D}, ks.length = xs.length → Rs X.K X.mg M H xs ds → (valV (ks.zip xs) k = none ∧ dvl ks ds k = none) ∨ ∃ v d, valV (ks.zip xs) k = some v ∧ dvl ks ds k = some d ∧ R X.K X.mg M H v d
  | [], [], [], _, _ => .inl ⟨rfl, rfl⟩
  | k' :: ks, x :: xs, d :: ds, hl, r => by
    unfold Rs at r
    by_cases h : k' = k
    · refine .inr ⟨x, d, ?_, ?_, r.1⟩
      · exact valV_pos (p := (k', x)) h
      · show (if k' = k then some d else _) = _; rw [if_pos h]
    · have e1 : valV ((k' :: ks).zip (x :: xs)) k = valV (ks.zip xs) k := valV_neg (p := (k', x)) h
      have e2 : dvl (k' :: ks) (d :: ds) k = dvl ks ds k := by show (if k' = k then some d else _) = _; rw [if_neg h]
      rw [e1, e2]
      exact dvl_rel (by simpa using hl) r.2
  | [], [], _ :: _, _, r => by unfold Rs at r; exact r.elim
  | _ :: _, _ :: _, [], _, r => by unfold Rs at r; exact r.elim
  | [], _ :: _, _, hl, _ => by simp at hl
  | _ :: _, [], _, hl, _ => by simp at hl
/-- the readings of a display's pairs -/
def trsOf (X : Cx) : List (Option Expr) → List Expr → List (TE × TE)
  | some k :: ks, v :: vs => (wE X k, wE X v) :: trsOf X ks vs
  | _, _ => []
theorem pps_of {pos : Pos} : ∀ {keys : List (Option Expr)} {values : List Expr}, keys.all (·.isSome) = true → keys.length = values.length → PPs X pos keys values (trsOf X keys values)
  | [], [], _, _ => pps_nil
  | some k :: ks, v :: vs, h, hl => pps_cons pe_w pe_w (pps_of (by simpa using h) (by simpa using hl))
  | none :: _, _, h, _ => by simp at h
  | [], _ :: _, _, hl => by simp at hl
  | _ :: _, [], _, hl => by simp at hl
/-- the pairs of a display with texts as keys -/
structure EDp (X : Cx) (M : Addr → Prop) (e : DE) (cs : Cs) (keys : List (Option Expr)) (values : List Expr) (ks : List Key) (ds : List D) (cs' : Cs) : Prop where
  dm : dom cs' = dom cs
  ok : keys.all (·.isSome) = true ∧ keys.length = values.length ∧ keys.length = ks.length
  k : ∀ (σ : L2.St) (H : Hp) (Q : List (V × V) → Hp → Prop), Sit X.K X.mg M σ H e cs → (∀ vs H', Sit X.K X.mg M σ H' e cs' → Ext (dom cs) H H' → ks.length = vs.length → Rs X.K X.mg M H' vs ds → Q ((ks.zip vs).map fun kv => (kV kv.1, kv.2)) H') → tPairs (trsOf X keys values) σ H Q
theorem dp_nil : EDp X M e cs [] [] [] [] cs := ⟨rfl, ⟨rfl, rfl, rfl⟩, fun σ H Q S k => k [] H S (Ext.refl _ _) rfl Rs.nil⟩
theorem dp_cons {s : Str} {i} {keys : List (Option Expr)} {values : List Expr} {ks : List Key} (ha : EE X M e cs a d cs1) (hr : EDp X M e cs1 keys values ks ds cs2) : EDp X M e cs (some (.Constant (.str s) i p) :: keys) (a :: values) (Sum.inr s :: ks) (d :: ds) cs2 where
  dm := hr.dm.trans ha.dm
  ok := ⟨by simpa using hr.ok.1, by simp [hr.ok.2.1], by simp [← hr.ok.2.2]⟩
  k := fun σ H Q S k => we_of pe_str (ha.k σ H _ S fun v H1 S1 x1 r1 => hr.k σ H1 _ S1 fun vs H2 S2 x2 hl r2 =>
    k (v :: vs) H2 S2 (x1.trans (by rw [← ha.dm]; exact x2)) (by simp [hl]) (.cons (S1.r x2 r1) r2))
theorem mergeK_new : ∀ (more kvs : List (Key × V)), ((kvs ++ more).map (·.1)).Nodup → mergeK kvs more = kvs ++ more
  | [], kvs, _ => by simp [mergeK]
  | q :: r, kvs, h => by
    have hn : valV kvs q.1 = none := by
      have h1 := valV_any q.1 kvs
      cases hv : valV kvs q.1 with
      | none => rfl
      | some v =>
        rw [hv] at h1
        obtain ⟨kv, hk, he⟩ := List.any_eq_true.mp h1
        have he : kv.1 = q.1 := by simpa using he
        rw [List.map_append, List.map_cons] at h
        have := (List.nodup_append.mp h).2.2 kv.1 (List.mem_map_of_mem (f := (·.1)) hk) q.1 List.mem_cons_self
        exact absurd he this
    show mergeK (putK kvs q.1 q.2) r = _
    rw [putK_new q.2 hn, mergeK_new r _ (by simpa using h)]
    simp
theorem e_dic {keys : List (Option Expr)} {values : List Expr} {ks : List Key} (hp : ∀ q, ¬ M q → EDp X (fun b => M b ∨ b = q) e cs keys values ks ds cs1) (hd : dom cs1 = dom cs := by rfl) (h0 : keys ≠ [] := by simp) (h15 : keys.length ≤ 15 := by simp) (hk : ks.Nodup := by decide +kernel) (ho : keys.all (·.isSome) = true ∧ keys.length = values.length ∧ keys.length = ks.length := by exact ⟨rfl, rfl, rfl⟩) : EE X M e cs (.Dict keys values pos) (.dic ks ds) cs1 where
  dm := hd
  k := fun σ H Q S k => we_of (pe_disp (pps_of ho.1 ho.2.1) ho.1 ho.2.1 h0 h15) (fun q hq => by
    have nq := new_m S.mt hq
    have nd : q ∉ dom cs := fun z => by
      obtain ⟨c, hc, e⟩ := List.mem_map.mp z
      exact (S.cel c hc).2.ne (e ▸ hq)
    refine (hp q nq).k σ _ _ (S.mark hq) fun vs H2 S2 x2 hl r2 => ?_
    have h2 : H2 q = some (.dK []) := x2 q _ upd_same nd
    refine ⟨h2, ks.zip vs, rfl, by rw [List.length_zip]; omega, ?_⟩
    have hm : mergeK [] (ks.zip vs) = ks.zip vs := by
      rw [mergeK_new (ks.zip vs) [] (by
        rw [List.nil_append, List.map_fst_zip (by omega)]; exact hk)]
      rfl
    rw [hm]
    have kp : ∀ b o, ¬ (M b ∨ b = q) → H2 b = some o → upd H2 q (.dK (ks.zip vs)) b = some o := fun b o n h => by rw [upd_ne fun z => n (.inr z)]; exact h
    have mr : ∀ b, ¬ (M b ∨ b = q) → H2 b ≠ none → ¬ M b := fun b n _ z => n (.inl z)
    refine k _ _ ⟨fun b m => ?_, S2.len, fun i d h => ?_, fun c hc => ?_, S2.nd⟩ (fun b o h n => ?_) ?_
    · by_cases z : b = q
      · subst z; rw [upd_same]; simp
      · rw [upd_ne z]; exact S2.mt b (.inl m)
    · obtain ⟨v, e1, r⟩ := S2.env i d h
      exact ⟨v, e1, R.ext kp mr d r⟩
    · obtain ⟨m, c2⟩ := S2.cel c hc
      have ne : c.1 ≠ q := fun z => nd (by rw [← hd, ← z]; exact List.mem_map_of_mem (f := (·.1)) hc)
      exact ⟨m.resolve_right ne, c2.ext kp mr fun o h => by rw [upd_ne ne]; exact h⟩
    · have ne : b ≠ q := ne_of_none h hq
      rw [upd_ne ne]
      exact x2 b o (by rw [upd_ne ne]; exact h) n
    · unfold R
      exact ⟨q, vs, rfl, nq, .inl upd_same, hl, Rs.ext kp mr _ r2⟩)
theorem dget_rd {H : Hp} {a : Addr} {kvs : List (Key × V)} {k : Key} (e : Rd H a (.dK kvs)) : DGet H a (kV k) (valV kvs k) := .inl ⟨kvs, k, e, rfl, rfl⟩
/-- d.get(s, y) -/
theorem e_dgetD {s : Str} {ks : List Key} (ha : EE X M e cs a (.dic ks ds) cs1) (hb : EE X M e cs1 b (.str s) cs2) (hc : EE X M e cs2 c y cs3) (hu : X.A.units + 1 < cLine) (hm : M2 X a "get" apos b c pos := by exact ⟨rfl, rfl, rfl, rfl⟩) : EE X M e cs (.Call (.Attribute a "get" apos) [b, c] [] pos) ((dvl ks ds (Sum.inr s)).getD y) cs3 where
  dm := hc.dm.trans (hb.dm.trans ha.dm)
  k := fun σ H Q S k => we_of (pe_dget2 hu pe_w pe_w pe_w hm) (ha.k σ H _ S fun v H1 S1 x1 r1 => by
    unfold R at r1
    obtain ⟨ad, xs, rfl, nm, h1, hl, rs⟩ := r1
    refine ⟨ad, rfl, .inl ⟨_, h1⟩, ?_⟩
    refine hb.k σ H1 _ S1 fun v2 H2 S2 x2 r2 => hc.k σ H2 _ S2 fun v3 H3 S3 x3 r3 => ?_
    simp only [R] at r2
    subst r2
    have h3 : Rd H3 ad (.dK (ks.zip xs)) := rd_ext (fun o q => S2.keeps x3 ad o nm (S1.keeps x2 ad o nm q)) h1
    refine ⟨valV (ks.zip xs) (Sum.inr s), dget_rd (k := (Sum.inr s : Key)) h3, k _ H3 S3 ?_ ?_⟩
    · exact (x1.trans (by rw [← ha.dm]; exact x2)).trans (by rw [← hb.dm.trans ha.dm]; exact x3)
    · rcases dvl_rel (k := (Sum.inr s : Key)) hl (S2.rs x3 (S1.rs x2 rs)) with ⟨e1, e2⟩ | ⟨v, d, e1, e2, r⟩
      · rw [e1, e2]; exact r3
      · rw [e1, e2]; exact r)
/-- d[s] -/
theorem e_dix {s : Str} {ks : List Key} (ha : EE X M e cs a (.dic ks ds) cs1) (hb : EE X M e cs1 b (.str s) cs2) (hv : dvl ks ds (Sum.inr s) = some y) (hu : X.A.units + 1 < cLine) (hs : NoSl b := by intro _ _; rfl) : EE X M e cs (.Subscript a b pos) y cs2 where
  dm := hb.dm.trans ha.dm
  k := fun σ H Q S k => we_of (pe_dget hu pe_w pe_w hs) (ha.k σ H _ S fun v H1 S1 x1 r1 => hb.k σ H1 _ S1 fun v2 H2 S2 x2 r2 => by
    unfold R at r1
    obtain ⟨ad, xs, rfl, nm, h1, hl, rs⟩ := r1
    simp only [R] at r2
    subst r2
    have h3 : Rd H2 ad (.dK (ks.zip xs)) := rd_ext (fun o q => S1.keeps x2 ad o nm q) h1
    rcases dvl_rel (k := (Sum.inr s : Key)) hl (S1.rs x2 rs) with ⟨e1, e2⟩ | ⟨v, d, e1, e2, r⟩
    · rw [hv] at e2; cases e2
    · rw [hv] at e2; cases e2
      have g := dget_rd (k := (Sum.inr s : Key)) h3
      rw [e1] at g
      exact ⟨ad, v, rfl, g, k _ H2 S2 (x1.trans (by rw [← ha.dm]; exact x2)) r⟩)
/-- s in d -/
theorem t_din {s : Str} {ks : List Key} (hb : EE X M e cs b (.str s) cs1) (ha : EE X M e cs1 a (.dic ks ds) cs2) (hu : X.A.units + 1 < cLine) (hm : behindInMarks CmpOp.In a = false := by rfl) : ET X M e cs (.Compare b [.In] [a] pos) (dvl ks ds (Sum.inr s)).isSome cs2 where
  dm := ha.dm.trans hb.dm
  k := fun σ H Q S k => wt_of (pt_cmp (pc_din hu pe_w pe_w) hm) (hb.k σ H _ S fun v2 H1 S1 x1 r2 => ha.k σ H1 _ S1 fun v H2 S2 x2 r1 => by
    unfold R at r1
    obtain ⟨ad, xs, rfl, nm, h1, hl, rs⟩ := r1
    simp only [R] at r2
    subst r2
    refine ⟨ad, _, rfl, dget_rd (k := (Sum.inr s : Key)) h1, _, rfl, ?_⟩
    have : (valV (ks.zip xs) (Sum.inr s : Key)).isSome = (dvl ks ds (Sum.inr s)).isSome := by
      rcases dvl_rel (k := (Sum.inr s : Key)) hl rs with ⟨e1, e2⟩ | ⟨v, d, e1, e2, r⟩
      · rw [e1, e2]; rfl
      · rw [e1, e2]; rfl
    rw [this]
    exact k H2 S2 (x1.trans (by rw [← hb.dm]; exact x2)))
end
end Od

set_option Elab.async false
set_option linter.all false
set_option maxRecDepth 100000
set_option maxHeartbeats 4000000
/-! Od19: zip of two tuples. -/
namespace Od
open PySem L2
section
variable {X : Cx} {M : Addr → Prop} {e : DE} {cs cs1 cs2 : Cs} {pos p tpos : Pos} {a b : Expr} {ds es' : List D}
theorem sqT_of {H : Hp} {ad : Addr} {xs : List V} (h : (¬ M ad ∧ H ad = some (.tup xs)) ∨ KT X.K ad xs) : SqT X.K H ad xs := h.elim (fun q => .inl (.inl q.2)) .inr
theorem tupR {H : Hp} {v : V} (r : R X.K X.mg M H v (.tup ds)) : ∃ (a : Addr) (xs : List V), v = .ref a ∧ ((¬ M a ∧ H a = some (.tup xs)) ∨ KT X.K a xs) ∧ Rs X.K X.mg M H xs ds := by unfold R at r; exact r
theorem walks_zipT {H : Hp} {aa ab : Addr} {xs ys : List V} (ha : (¬ M aa ∧ H aa = some (.tup xs)) ∨ KT X.K aa xs) (hb : (¬ M ab ∧ H ab = some (.tup ys)) ∨ KT X.K ab ys) (ra : Rs X.K X.mg M H xs ds) (rb : Rs X.K X.mg M H ys es') : Walks X M (RZ.ItzT X.K aa ab) (pairs ds es') H := fun M2 H2 kp mt => by
  have h2 : SqT X.K H2 aa xs := sqT_of (M := M2) (ha.imp_left fun q => kp aa _ q.1 q.2)
  have h3 : SqT X.K H2 ab ys := sqT_of (M := M2) (hb.imp_left fun q => kp ab _ q.1 q.2)
  have l1 := ra.length
  have l2 := rb.length
  refine ⟨fun i d hd => ?_, ⟨xs, ys, h2, h3, ?_⟩⟩
  · obtain ⟨x, y, rfl, hx, hy⟩ := pairs_get hd
    obtain ⟨u, hu, ru⟩ := ra.get hx
    obtain ⟨v, hv, rv⟩ := rb.get hy
    refine ⟨⟨xs, ys, u, v, h2, h3, hu, hv⟩, fun z H3 w => ?_⟩
    obtain ⟨T, x', y', rfl, hT, rfl, w1, w2⟩ := w
    have e1 := w1 xs h2
    have e2 := w2 ys h3
    rw [hu] at e1; rw [hv] at e2
    cases e1; cases e2
    exact ⟨Ext.new hT, r_newt mt hT (.cons (later kp ru) (.cons (later kp rv) .nil))⟩
  · rw [pairs_len, l1, l2]
    omega
theorem ei_zipT {elts : List Expr} {kk : Nat} {tpos : Pos} (ha : EE X M e cs a (.tup ds) cs1) (hb : EE X M e cs1 b (.tup es') cs2) (hm : X.mg "zip" = none) (hg : Gl X "zip" := by rfl)
    (hs : starEach [a, b] X.env = (false, eval a X.env) :: starEach [b] X.env := by rfl) (hs2 : starEach [b] X.env = (false, eval b X.env) :: starEach [] X.env := by rfl) (hpl : (backTo pos (starEach [b] X.env)).any (·.1) = false := by rfl) : EI X M e cs (.Tuple elts kk tpos) (.Call (.Name "zip" p) [a, b] [] pos) (pairs ds es') cs2 :=
  ⟨hb.dm.trans ha.dm, _, RZ.pi_zipA hg hm pa_w hs hpl, fun σ H Q S k => (a_cons ha (a_cons hb a_nil hs2) hs).k σ H _ S fun vs H1 S1 x1 r1 => by
    obtain ⟨v, u, rfl, r1, r2⟩ := rs2 r1
    obtain ⟨aa, xs, rfl, h1, ra⟩ := tupR r1
    obtain ⟨ab, ys, rfl, h2, rb⟩ := tupR r2
    exact ⟨aa, ab, xs, ys, rfl, .inr ⟨sqT_of h1, sqT_of h2, k _ H1 S1 x1 (walks_zipT h1 h2 ra rb)⟩⟩⟩
end
theorem EI.eq {X : Cx} {M : Addr → Prop} {e : DE} {cs cs1 : Cs} {tg a : Expr} {ds es : List D} (h : EI X M e cs tg a ds cs1) (q : ds = es) : EI X M e cs tg a es cs1 := q ▸ h
end Od

set_option Elab.async false
set_option linter.all false
set_option maxRecDepth 100000
set_option maxHeartbeats 4000000
namespace Od
open PySem L2 TL PySem.Spec
local macro_rules
  | `(tactic| walk_at "bd") => `(tactic| first | exact bd_add | exact bd_sub | exact bd_mulR (by decide) | exact bd_mulL (by decide) | exact bd_mod (by decide) | exact bd_div (by decide))
local macro_rules
  | `(tactic| walk_at "cd") => `(tactic| first | exact cd_lt | exact cd_le | exact cd_gt | exact cd_ge | exact cd_eqI | exact cd_eqS)
local macro_rules
  | `(tactic| walk_at "le") => `(tactic| repeat (first | exact LeD.nil | apply LeD.drop | apply LeD.same))
/-! ### signs, leaves, formulas drawn -/
def steps6 : List Int := [1, 3, 5, 7, 9, 11]
def codesF (f st : Int) (many : Nat) : List Nat := (List.range many).map fun (k : Nat) => 97 + ((f + st * (k : Int)) % 26).toNat
def signsF (b : Bag) (many : Nat) : List Nat × Bag :=
  (srt (codesF (draw b 26).1 (steps6.getD (draw (draw b 26).2 6).1.toNat 1) many), (draw (draw b 26).2 6).2)
theorem codes_alpha {f st : Int} {many : Nat} {c : Nat} (h : c ∈ codesF f st many) : c ∈ alpha := by
  obtain ⟨k, _, rfl⟩ := List.mem_map.mp h
  have h1 := Int.emod_nonneg (f + st * (k : Int)) (show (26 : Int) ≠ 0 by decide)
  have h2 := Int.emod_lt_of_pos (f + st * (k : Int)) (show (0 : Int) < 26 by decide)
  refine List.mem_map.mpr ⟨((f + st * (k : Int)) % 26).toNat, List.mem_range.mpr (by omega), by omega⟩
theorem signsF_alpha {b : Bag} {many : Nat} : ∀ c ∈ (signsF b many).1, c ∈ alpha := fun c h => codes_alpha ((srt_perm _).mem_iff.mp h)
theorem signsF_len {b : Bag} {many : Nat} : (signsF b many).1.length = many := by
  show (srt _).length = _
  rw [(srt_perm _).length_eq]
  simp [codesF]
theorem signsF_ok {b : Bag} (h : b.Ok) (many : Nat) : (signsF b many).2.Ok := draw_ok (draw_ok h _) _
theorem steps_le (i : Nat) : 0 ≤ steps6.getD i 1 ∧ steps6.getD i 1 ≤ 11 := by
  unfold steps6
  match i with
  | 0 => decide
  | 1 => decide
  | 2 => decide
  | 3 => decide
  | 4 => decide
  | 5 => decide
  | i + 6 => simp [List.getD]
theorem abc : tl (("abcdefghijklmnopqrstuvwxyz" : Str)) = alpha := by decide +kernel
theorem alpha_at {i : Nat} (h : i < 26) : alpha[i]? = some (97 + i) := by
  unfold alpha
  rw [List.getElem?_map, List.getElem?_range h]
  simp; omega
theorem abc_at (x : Int) (h1 : 0 ≤ x) (h2 : x < 26) : (tl (("abcdefghijklmnopqrstuvwxyz" : Str)))[x.toNat]? = some (97 + x.toNat) := by
  rw [abc]
  exact alpha_at (by omega)
structure SgI where
  ad : Addr
  b : Bag
  n : Nat
structure SgI.Pre (i : SgI) : Prop where
  ok : i.b.Ok
  le : i.n < 64
section
variable (P : Program) (w : World) (K : PySem.W.Frag) (mg : Str → Option Value) (base : Heap)
abbrev SignsD (k : Nat) : Prop := Dfn P w K mg base "_law_signs" k (fnSp K mg SgI.Pre (fun i => [.ref i.ad, .int i.n]) (fun i => [(i.ad, i.b.c)]) (fun i => .str ⟨(signsF i.b i.n).1.toArray⟩) (fun i => [(i.ad, (signsF i.b i.n).2.c)]))
variable {P w K mg base}
theorem scSigns : FnScope ["_law_bag", "_law_many", "_law_first", "_law_step", "_law_k"] ["_law_bag", "_law_many"] (defScope sSigns) := ⟨rfl, rfl, rfl, by decide +kernel, rfl, by decide +kernel, by decide +kernel⟩
theorem steps_get {b : Bag} : itemD (.lst [.int 1, .int 3, .int 5, .int 7, .int 9, .int 11]) (draw b 6).1.toNat = .int (steps6.getD (draw b 6).1.toNat 1) := by
  have := draw_lo (b := b) (s := 6) (by decide)
  have h6 : (draw b 6).1.toNat < 6 := by omega
  generalize (draw b 6).1.toNat = i at h6 ⊢
  match i, h6 with
  | 0, _ => rfl
  | 1, _ => rfl
  | 2, _ => rfl
  | 3, _ => rfl
  | 4, _ => rfl
  | 5, _ => rfl
theorem ok_signs {f : Addr} {fd : FuncData} (F : Fun K "_law_signs" "_law_signs" sSigns f fd) (hm : mg "_law_signs" = some (.ref f)) (hb : Binds K fd ["_law_bag", "_law_many"] []) (B : Blt mg) (D0 : DrawD P w K mg base 3) (D1 : OneD P w K mg base 4) : SignsD P w K mg base 5 := by
  refine dfn_of F hm scSigns hb (fun i => rfl) fun cdv A outer s H0 E i M Q hp hr kq => ?_
  obtain ⟨ad, b, n⟩ := i
  obtain ⟨ok, le⟩ := hp
  dsimp only at ok le kq
  refine at_unp2 2 3 (e_tup (a_cons (e_draw D0 (hr.mono (by decide)) (e_name 0 rfl) e_int .here ok (by decide)) (a_cons ((e_oneL D1 hr (e_name 0 rfl) (e_lst (a_cons e_int (a_cons e_int (a_cons e_int (a_cons e_int (a_cons e_int (a_cons e_int a_nil))))))) .here (draw_ok ok _) (by decide)).eq steps_get) a_nil))) ?_ scSigns.nd
  have hst : 0 ≤ steps6.getD (draw (draw b 26).2 6).1.toNat 1 ∧ steps6.getD (draw (draw b 26).2 6).1.toNat 1 ≤ 11 := steps_le _
  have hd : ∀ k : Nat, (tl (("abcdefghijklmnopqrstuvwxyz" : Str)))[(((draw b 26).1 + steps6.getD (draw (draw b 26).2 6).1.toNat 1 * (k : Int)) % 26).toNat]? = some (97 + (((draw b 26).1 + steps6.getD (draw (draw b 26).2 6).1.toNat 1 * (k : Int)) % 26).toNat) := fun k => abc_at _ (Int.emod_nonneg _ (by decide)) (Int.emod_lt_of_pos _ (by decide))
  have hi : ∀ k : Nat, ixN 26 (((draw b 26).1 + steps6.getD (draw (draw b 26).2 6).1.toNat 1 * (k : Int)) % 26) = some (((draw b 26).1 + steps6.getD (draw (draw b 26).2 6).1.toNat 1 * (k : Int)) % 26).toNat := fun k => ixN_int (Int.emod_nonneg _ (by decide)) (Int.emod_lt_of_pos _ (by decide))
  refine at_end (e_join (ts := (signsF b n).1.map sg) (join_len0 _ (by rw [signsF_len]; omega)) e_str (e_blt (kd_sortedS (ss := (codesF (draw b 26).1 (steps6.getD (draw (draw b 26).2 6).1.toNat 1) n).map sg) (by simp [codesF]; omega) (fun ys h1 h2 => sortS_sg h1 h2)) (a_cons (EE.eq (e_lcM [("_law_k", 4)] (List.range n) (fun (k : Nat) => D.int (k : Int)) (fun (k : Nat) => D.str (sg (97 + (((draw b 26).1 + steps6.getD (draw (draw b 26).2 6).1.toNat 1 * (k : Int)) % 26).toNat)))
      (EI.eq (ei_rng1 (e_name 1 rfl) B.range (by dsimp only; omega)) (by simp [ups, Function.comp_def])) (ctg_name 4 scSigns.nd (by decide) rfl) (fun _ _ => trivial) (by simp; omega)
      (fun k hk M' hM s H C cl fp => e_ix e_str (e_bin (e_bty kd_int (a_cons (e_bin (e_name 2 rfl) (e_bin (e_name 3 rfl) (e_name 4 rfl) (bd_mulL (by omega))) (by walk_at "bd")) a_nil) B.int) e_int (by walk_at "bd")) (xd_str (by decide +kernel) ((congrArg (fun m => ixN m _) (show (tl (("abcdefghijklmnopqrstuvwxyz" : Str))).length = 26 by decide +kernel)).trans (hi k)) (hd k))) (blkOk_by rfl) scSigns.nd) (by simp [codesF])) a_nil) B.sorted)) ?_ (.head _) kq
  rw [join_sg]
end
end Od

set_option Elab.async false
set_option linter.all false
set_option maxRecDepth 100000
set_option maxHeartbeats 4000000
namespace Od
open PySem L2 TL PySem.Spec
abbrev sIsLet : Stmt := top 12
abbrev sLetIn : Stmt := top 13
abbrev sCls : Stmt := top 14
abbrev sIsForm : Stmt := top 15
abbrev sTextIn : Stmt := top 16
local macro_rules
  | `(tactic| walk_at "bd") => `(tactic| first | exact bd_add | exact bd_sub | exact bd_mulR (by decide) | exact bd_mulL (by decide) | exact bd_mod (by decide) | exact bd_div (by decide))
local macro_rules
  | `(tactic| walk_at "cd") => `(tactic| first | exact cd_lt | exact cd_le | exact cd_gt | exact cd_ge | exact cd_eqI | exact cd_eqS)
def isLet (s : Str) : Bool := match tl s with
  | [c] => decide (c ∈ alpha)
  | _ => false
/-- what the walk asks of the class and the module's names -/
structure FmT (w : World) (K : PySem.W.Frag) (mg : Str → Option Value) (C : Addr) : Prop where
  hm : mg "Formula" = some (.ref C)
  cl : Cls K C
  ci : ClsI K C
  kit : PySem.W.kitOne K (.ref C) (.ref C) = some true
  no : ∀ n ∈ fnames, NoAttr K C n
  al : ∃ u, mg "ALPHABET" = some u ∧ RelV (.str "abcdefghijklmnopqrstuvwxyz") u
  sig : ∃ pa, mg "SIGNS" = some (.ref pa) ∧ ∀ o : Op, KDct K w pa o.w (.str o.s)
section
variable (P : Program) (w : World) (K : PySem.W.Frag) (mg : Str → Option Value) (base : Heap)
abbrev IsLetD (k : Nat) : Prop := Dfn P w K mg base "is_letter" k (puSp K mg (fun s : Str => s.length ≤ 100000) (fun s => [.str s]) (fun s => .bl (isLet s)))
def letsOf (ts : List Str) : List Nat := alpha.filter fun c => ts.any fun t => decide (c ∈ tl t)
abbrev LetInD (k : Nat) : Prop := Dfn P w K mg base "letters_in" k (puSp K mg (fun ts : List Str => ts.length ≤ 1000) (fun ts => [.lst (ts.map D.str)]) (fun ts => .str (strOf (letsOf ts))))
abbrev PropD (n : Str) (res : Fm → D) (k : Nat) : Prop := Prp P w K mg base "Formula" n k (puSp K mg (fun _ : Fm => True) (fun f => [f.o]) res)
abbrev M0D (n : Str) (res : Fm → D) (k : Nat) : Prop := Mth P w K mg base "Formula" n k (puSp K mg (fun _ : Fm => True) (fun f => [f.o]) res)
abbrev IsFormD (k : Nat) : Prop := Dfn P w K mg base "is_form" k (puSp K mg (fun f : Fm => f.ok) (fun f => [.str f.w, .tup f.parts]) (fun f => .bl true))
abbrev TextInD (k : Nat) : Prop := Dfn P w K mg base "text_in" k (puSp K mg (fun f : Fm => f.sz ≤ 10000) (fun f => [.str f.w, .tup f.parts]) (fun f => .str f.t))
variable {P w K mg base}
theorem scIsLet : FnScope ["value"] ["value"] (defScope sIsLet) := ⟨rfl, rfl, rfl, by decide +kernel, rfl, by decide +kernel, by decide +kernel⟩
theorem scLetIn : FnScope ["texts", "sign", "text"] ["texts"] (defScope sLetIn) := ⟨rfl, rfl, rfl, by decide +kernel, rfl, by decide +kernel, by decide +kernel⟩
theorem scIsForm : FnScope ["word", "parts", "part"] ["word", "parts"] (defScope sIsForm) := ⟨rfl, rfl, rfl, by decide +kernel, rfl, by decide +kernel, by decide +kernel⟩
theorem scTextIn : FnScope ["word", "parts", "one", "other"] ["word", "parts"] (defScope sTextIn) := ⟨rfl, rfl, rfl, by decide +kernel, rfl, by decide +kernel, by decide +kernel⟩
theorem one_sign {s : Str} (h : decide ((s.length : Int) = 1) = true) : ∃ c, s = sg c := by
  have h1 : (tl s).length = 1 := by
    have := of_decide_eq_true h
    rw [← len_tl]; omega
  match q : tl s, h1 with
  | [c], _ => exact ⟨c, ext_tl q⟩
theorem isLet_no {s : Str} (h : decide ((s.length : Int) = 1) = false) : isLet s = false := by
  unfold isLet
  split
  · rename_i c q
    have : s.length = 1 := by rw [len_tl, q]; rfl
    simp [this] at h
  · rfl
theorem ok_isLet {f C : Addr} {fd : FuncData} (F : Fun K "is_letter" "is_letter" sIsLet f fd) (hm : mg "is_letter" = some (.ref f)) (hb : Binds K fd ["value"] []) (B : Blt mg) (T : FmT w K mg C) : IsLetD P w K mg base 2 := by
  refine dfn_of F hm scIsLet hb (fun i => rfl) fun cdv A outer s H0 E t M Q hp hr kq => ?_
  obtain ⟨u, h1, h2⟩ := T.al
  refine at_end (e_and (q0 := isLet t) (e_blt (kd_isi (t := "str") (n := "str") (b := true) rfl (by decide +kernel)) (a_cons (e_name 0 rfl) (a_cons (e_gty (t := "str") B.str) a_nil)) B.isinstance) fun _ => EE.eq (e_and (q0 := isLet t) (e_cmp (e_blt (kd_lenS (Nat.le_trans hp (by decide))) (a_cons (e_name 0 rfl) a_nil) B.len) e_int (by walk_at "cd")) fun h => e_one ?_) ?_) rfl (.head _) kq
  · obtain ⟨c, rfl⟩ := one_sign h
    exact (e_cmp (e_name 0 rfl) (e_gstr h1 h2) cd_inC).eq (by rw [show (Str.ofString "abcdefghijklmnopqrstuvwxyz").cps.toList = alpha from abc]; rfl)
  · cases h : decide ((t.length : Int) = 1) with
    | true => simp
    | false => rw [isLet_no h]; simp
theorem ok_letIn {f C : Addr} {fd : FuncData} (F : Fun K "letters_in" "letters_in" sLetIn f fd) (hm : mg "letters_in" = some (.ref f)) (hb : Binds K fd ["texts"] []) (B : Blt mg) (T : FmT w K mg C) : LetInD P w K mg base 2 := by
  refine dfn_of F hm scLetIn hb (fun i => rfl) fun cdv A outer s H0 E ts M Q hp hr kq => ?_
  obtain ⟨u, h1, h2⟩ := T.al
  have hlen : (letsOf ts).length ≤ 100000 := Nat.le_trans (List.length_filter_le _ _) (by decide)
  refine at_end (e_join (ts := (letsOf ts).map sg) (join_len0 _ hlen) e_str (EE.eq (e_lcFM [("sign", 1)] alpha (fun c => D.str (sg c)) (fun c => ts.any fun t => decide (c ∈ tl t)) (fun c => D.str (sg c))
    (EI.eq (ei_str (e_gstr h1 h2)) ?_) (ctg_name 1 scLetIn.nd (by decide) rfl) (fun _ _ => trivial) (by decide)
    (fun c hc M' hM s H C cl fp => ET.eq (t_val (e_blt (kd_any (bs := ts.map fun t => decide (c ∈ tl t))) (a_cons (EE.eq (e_lcM [("text", 2)] ts D.str (fun t => D.bl (decide (c ∈ tl t))) (ei_list (e_name 0 rfl)) (ctg_name 2 scLetIn.nd (by decide) rfl) (fun _ _ => trivial) (Nat.le_trans hp (by decide))
      (fun t ht M'' hM2 s2 H2 C2 cl2 fp2 => e_cmp (e_name 1 rfl) (e_name 2 rfl) cd_inC) (blkOk_by rfl) scLetIn.nd) (by simp)) a_nil) B.any)) (by simp [List.any_map, Function.comp_def]))
    (fun c hc q M' hM s H C cl fp => e_name 1 rfl) (blkOk_by rfl) scLetIn.nd) (by simp [letsOf]))) ?_ (.head _) kq
  · have : signs (Str.ofString "abcdefghijklmnopqrstuvwxyz") = alpha.map sg := by
      rw [← abc]; rfl
    rw [this]; simp
  · rw [join_sg]; rfl
theorem e_fp {X : Cx} {M : Addr → Prop} {e : DE} {cs cs1 : Cs} {pos : Pos} {a : Expr} {f : Fm} {n : Str} {res : Fm → D} {k : Nat} {d : D} (F : PropD X.prog X.w X.K X.mg X.base n res k) (hr : Room (k + 1) X.A) (ha : EE X M e cs a f.o cs1) (hd : res f = d := by rfl) (hb : attributeBase a n X.env (eval a X.env) = eval a X.env := by rfl) : EE X M e cs (.Attribute a n pos) d cs1 :=
  (e_prop F hr (ha.eq f.o_eq) f trivial (by rw [f.o_eq]) hb).eq hd
theorem e_fm {X : Cx} {M : Addr → Prop} {e : DE} {cs cs1 : Cs} {pos apos : Pos} {o : Expr} {f : Fm} {n : Str} {res : Fm → D} {k : Nat} {d : D} {pl : Sem Bool} (F : M0D X.prog X.w X.K X.mg X.base n res k) (hr : Room k X.A) (ho : EE X M e cs o f.o cs1) (hd : res f = d := by rfl) (hn : n ∉ fnames := by decide +kernel)
    (ht : eval (.Call (.Attribute o n apos) [] [] pos) X.env = (do
      let ov ← eval o X.env
      standAt apos.atName
      let (f, first) ← holding [ov] (getMethod ov n pl)
      callWith pos f first (backTo pos (starEach [] X.env)) (backToKw pos (keywordEach [] X.env))) := by rfl) : EE X M e cs (.Call (.Attribute o n apos) [] [] pos) d cs1 :=
  (e_meth0 F hr (ho.eq f.o_eq) hn f trivial (by rw [f.o_eq]) ht).eq hd
theorem w_le (f : Fm) (h : decide (f.w = ("letter" : Str)) = true) : ∃ c, f = .le c := by
  cases f with
  | le c => exact ⟨c, rfl⟩
  | cst b => rw [show (Fm.cst b).w = cw b from rfl, cw_ne] at h; cases h
  | bin o a b => rw [show (Fm.bin o a b).w = o.w from rfl, Op.w_ne] at h; cases h
theorem Op.noTF (o : Op) : (decide (o.w = ("true" : Str)) || decide (o.w = ("false" : Str))) = false := by cases o <;> decide +kernel
theorem Op.noF (o : Op) : decide (o.w = ("false" : Str)) = false := by cases o <;> decide +kernel
theorem Op.in3 (o : Op) : (decide (o.w = ("and" : Str)) || (decide (o.w = ("or" : Str)) || decide (o.w = ("if" : Str)))) = true := by cases o <;> decide +kernel
theorem isLet_sg {c : Nat} (h : c ∈ alpha) : isLet (sg c) = true := by simpa [isLet] using h
theorem ok_isForm {f C : Addr} {fd : FuncData} (F : Fun K "is_form" "is_form" sIsForm f fd) (hm : mg "is_form" = some (.ref f)) (hb : Binds K fd ["word", "parts"] []) (B : Blt mg) (T : FmT w K mg C) (L : IsLetD P w K mg base 2) : IsFormD P w K mg base 3 := by
  refine dfn_of F hm scIsForm hb (fun i => rfl) fun cdv A outer s H0 E g M Q hp hr kq => ?_
  refine at_if (t_cmp (e_name 0 rfl) e_str (by walk_at "cd")) (fun h => ?_) fun h => at_nil ?_
  · obtain ⟨c, rfl⟩ := w_le g h
    exact at_end (e_and (q0 := true) (e_cmp (k0 := true) (e_blt kd_lenT (a_cons (e_name 1 rfl) a_nil) B.len) e_int cd_eqI) fun _ => e_one ((e_call L hr (a_cons (e_ix (e_name 1 rfl) e_int (xd_tup (j := 0) rfl rfl)) a_nil) (sg c) (by show 1 ≤ 100000; decide) rfl).eq (by rw [isLet_sg hp]))) rfl (.head _) kq
  · cases g with
    | le c => simp [Fm.w] at h
    | cst b =>
      refine at_if (t_cmp (e_name 0 rfl) (e_tup (a_cons e_str (a_cons e_str a_nil))) cd_inT2) (fun _ => ?_) fun h2 => ?_
      · exact at_end (e_cmp (k0 := true) (e_blt kd_lenT (a_cons (e_name 1 rfl) a_nil) B.len) e_int cd_eqI) rfl (.head _) kq
      · cases b <;> exact absurd h2 (by decide +kernel)
    | bin o a b =>
      refine at_if (t_cmp (e_name 0 rfl) (e_tup (a_cons e_str (a_cons e_str a_nil))) cd_inT2) (fun h2 => ?_) fun _ => at_nil ?_
      · rw [show (Fm.bin o a b).w = o.w from rfl, Op.noTF] at h2; cases h2
      · refine at_end (e_and (q0 := true) ((e_cmp (e_name 0 rfl) (e_tup (a_cons e_str (a_cons e_str (a_cons e_str a_nil)))) cd_inT3).eq (y := .bl true) (congrArg D.bl (Op.in3 o))) fun _ => e_and (q0 := true) (e_cmp (k0 := true) (e_blt kd_lenT (a_cons (e_name 1 rfl) a_nil) B.len) e_int cd_eqI) fun _ => e_one (EE.eq (e_blt (kd_all (bs := [true, true])) (a_cons (EE.eq (e_lcM [("part", 2)] [a, b] Fm.o (fun _ => D.bl true)
          (ei_tup (e_name 1 rfl)) (ctg_name 2 scIsForm.nd (by decide) rfl) (fun _ _ => trivial) (by show 2 ≤ 100000; decide)
          (fun g hg M' hM s2 H2 C2 cl2 fp2 => e_blt (kd_isiOC T.hm T.ci T.kit) (a_cons ((e_name 2 rfl).eq g.o_eq) (a_cons (e_gref T.hm) a_nil)) B.isinstance) (blkOk_by rfl) scIsForm.nd) (by rfl)) a_nil) B.all) (by rfl))) rfl (.head _) kq
theorem ok_textIn {f C : Addr} {fd : FuncData} (F : Fun K "text_in" "text_in" sTextIn f fd) (hm : mg "text_in" = some (.ref f)) (hb : Binds K fd ["word", "parts"] []) (B : Blt mg) (T : FmT w K mg C) (PW : PropD P w K mg base "word" (fun f => .str f.w) 2) (PT : M0D P w K mg base "text" (fun f => .str f.t) 2) : TextInD P w K mg base 4 := by
  refine dfn_of F hm scTextIn hb (fun i => rfl) fun cdv A outer s H0 E g M Q hp hr kq => ?_
  refine at_if (t_cmp (e_name 0 rfl) e_str (by walk_at "cd")) (fun h => ?_) fun h => at_nil ?_
  · obtain ⟨c, rfl⟩ := w_le g h
    exact at_end (e_ix (e_name 1 rfl) e_int (xd_tup (j := 0) rfl rfl)) rfl (.head _) kq
  · cases g with
    | le c => simp [Fm.w] at h
    | cst b =>
      refine at_if (t_cmp (e_name 0 rfl) (e_tup (a_cons e_str (a_cons e_str a_nil))) cd_inT2) (fun _ => ?_) fun h2 => ?_
      · refine at_end (e_bty (kd_strI ?_) (a_cons (e_bty kd_intB (a_cons (e_cmp (e_name 0 rfl) e_str (by walk_at "cd")) a_nil) B.int) a_nil) B.str) ?_ (.head _) kq
        · split <;> decide
        · cases b <;> exact congrArg D.str (by decide +kernel)
      · cases b <;> exact absurd h2 (by decide +kernel)
    | bin o a b =>
      refine at_if (t_cmp (e_name 0 rfl) (e_tup (a_cons e_str (a_cons e_str a_nil))) cd_inT2) (fun h2 => ?_) fun _ => at_nil ?_
      · rw [show (Fm.bin o a b).w = o.w from rfl, Op.noTF] at h2; cases h2
      · obtain ⟨pa, sg1, sg2⟩ := T.sig
        have hs : (Fm.bin o a b).sz = 1 + (a.sz + b.sz) := rfl
        have ha := a.t_len
        have hb := b.t_len
        have hp' : (Fm.bin o a b).sz ≤ 10000 := hp
        have z : ∀ n : Nat, n ≤ 100000 → n ≤ sizeLine := fun n h => Nat.le_trans h (by decide)
        have l1 : (("-" : Str)).length = 1 := by decide +kernel
        have l2 : (("(" : Str)).length = 1 := by decide +kernel
        have l3 : ((")" : Str)).length = 1 := by decide +kernel
        have l4 : o.s.length ≤ 4 := by cases o <;> decide +kernel
        refine at_unp2 (x := a.o) (y := b.o) 2 3 (e_name 1 rfl) ?_ scTextIn.nd
        refine at_if (b0 := decide (o = .im ∧ b = .cst false)) (ET.eq (t_ew (t_and (t_cmp (e_name 0 rfl) e_str (by walk_at "cd")) fun _ => t_and1 (t_cmp (e_fp PW (hr.mono (by decide)) (e_name 3 rfl)) e_str (by walk_at "cd")))) ?_) (fun h => ?_) fun h => at_nil ?_
        · have h1 : decide (o.w = ("if" : Str)) = decide (o = .im) := by cases o <;> decide +kernel
          have h2 : decide (b.w = ("false" : Str)) = decide (b = .cst false) := by
            cases b with
            | cst c => cases c <;> decide +kernel
            | le c => rw [decide_eq_false (show ¬ Fm.le c = Fm.cst false from fun z => by cases z)]; exact (by decide +kernel : decide (("letter" : Str) = "false") = false)
            | bin o a b => rw [decide_eq_false (show ¬ Fm.bin o a b = Fm.cst false from fun z => by cases z)]; exact Op.noF o
          show (decide (o.w = ("if" : Str)) && decide (b.w = ("false" : Str))) = _
          rw [h1, h2]; simp
        · simp only [decide_eq_true_eq] at h
          have e : (Fm.bin o a b).t = ("-" : Str) ++ a.t := by
            conv => lhs; unfold Fm.t
            exact if_pos h
          refine at_end (e_bin e_str (e_fm PT (hr.mono (by decide)) (e_name 2 rfl)) (bd_addS (z _ (by omega)))) ?_ (.head _) kq
          rw [e]
        · simp only [decide_eq_false_iff_not] at h
          have e : (Fm.bin o a b).t = ("(" : Str) ++ a.t ++ o.s ++ b.t ++ (")" : Str) := by
            conv => lhs; unfold Fm.t
            exact if_neg h
          refine at_end (e_bin (e_bin (e_bin (e_bin e_str (e_fm PT (hr.mono (by decide)) (e_name 2 rfl)) (bd_addS (z _ (by omega)))) (e_ix (e_gref sg1) (e_name 0 rfl) (xd_kd (sg2 o))) (bd_addS (z _ (by rw [len_app]; omega)))) (e_fm PT (hr.mono (by decide)) (e_name 3 rfl)) (bd_addS (z _ (by rw [len_app, len_app]; omega)))) e_str (bd_addS (z _ (by rw [len_app, len_app, len_app]; omega)))) ?_ (.head _) kq
          rw [e]
end
end Od

set_option Elab.async false
set_option linter.all false
set_option maxRecDepth 100000
set_option maxHeartbeats 4000000
namespace Od
open PySem L2 TL PySem.Spec
abbrev sInit : Stmt := inClass sCls 1
abbrev sLetter : Stmt := inClass sCls 2
abbrev sTrue : Stmt := inClass sCls 3
abbrev sFalse : Stmt := inClass sCls 4
abbrev sParts : Stmt := inClass sCls 12
abbrev sText : Stmt := inClass sCls 13
abbrev sNeg : Stmt := inClass sCls 19
abbrev sEq : Stmt := inClass sCls 20
local macro_rules
  | `(tactic| walk_at "bd") => `(tactic| first | exact bd_add | exact bd_sub | exact bd_mulR (by decide) | exact bd_mulL (by decide) | exact bd_mod (by decide) | exact bd_div (by decide))
local macro_rules
  | `(tactic| walk_at "cd") => `(tactic| first | exact cd_lt | exact cd_le | exact cd_gt | exact cd_ge | exact cd_eqI | exact cd_eqS)
section
variable {P : Program} {w : World} {K : PySem.W.Frag} {mg : Str → Option Value} {base : Heap}
theorem e_f {X : Cx} {M : Addr → Prop} {e : DE} {cs cs1 : Cs} {pos : Pos} {a : Expr} {f : Fm} {n : Str} {C : Addr} {d : D} (T : FmT X.w X.K X.mg C) (i : Nat) (ha : EE X M e cs a f.o cs1) (hd : f.fs[i]? = some d) (hi : fnames.idxOf? n = some i := by decide +kernel) (hn : n ∈ fnames := by decide +kernel) (hb : attributeBase a n X.env (eval a X.env) = eval a X.env := by rfl) : EE X M e cs (.Attribute a n pos) d cs1 :=
  e_fld (ha.eq f.o_eq) T.hm T.cl (T.no _ hn) i hi hd hb
abbrev s_word : Stmt := inClass sCls 7
theorem sc_word : FnScope ["self"] ["self"] (defScope s_word) := ⟨rfl, rfl, rfl, by decide +kernel, rfl, by decide +kernel, by decide +kernel⟩
theorem ok_word {f C : Addr} {fd : FuncData} (F : Fun K "word" "Formula.word" s_word f fd) (hC : ∃ C p, mg "Formula" = some (.ref C) ∧ Cls K C ∧ PropOf K C "word" p f) (hb : Binds K fd ["self"] []) (T : FmT w K mg C) : PropD P w K mg base "word" (fun f => .str f.w) 1 := by
  refine prp_of hC F sc_word hb (fun i => rfl) fun cdv A outer s H0 E g M Q hp hr kq => ?_
  exact at_end (e_f T 0 (e_name 0 rfl) rfl) rfl (.head _) kq
abbrev s_letters : Stmt := inClass sCls 8
theorem sc_letters : FnScope ["self"] ["self"] (defScope s_letters) := ⟨rfl, rfl, rfl, by decide +kernel, rfl, by decide +kernel, by decide +kernel⟩
theorem ok_letters {f C : Addr} {fd : FuncData} (F : Fun K "letters" "Formula.letters" s_letters f fd) (hC : ∃ C p, mg "Formula" = some (.ref C) ∧ Cls K C ∧ PropOf K C "letters" p f) (hb : Binds K fd ["self"] []) (T : FmT w K mg C) : PropD P w K mg base "letters" (fun f => .str f.l) 1 := by
  refine prp_of hC F sc_letters hb (fun i => rfl) fun cdv A outer s H0 E g M Q hp hr kq => ?_
  exact at_end (e_f T 6 (e_name 0 rfl) rfl) rfl (.head _) kq
abbrev s_size : Stmt := inClass sCls 9
theorem sc_size : FnScope ["self"] ["self"] (defScope s_size) := ⟨rfl, rfl, rfl, by decide +kernel, rfl, by decide +kernel, by decide +kernel⟩
theorem ok_size {f C : Addr} {fd : FuncData} (F : Fun K "size" "Formula.size" s_size f fd) (hC : ∃ C p, mg "Formula" = some (.ref C) ∧ Cls K C ∧ PropOf K C "size" p f) (hb : Binds K fd ["self"] []) (T : FmT w K mg C) : PropD P w K mg base "size" (fun f => .int (f.sz : Nat)) 1 := by
  refine prp_of hC F sc_size hb (fun i => rfl) fun cdv A outer s H0 E g M Q hp hr kq => ?_
  exact at_end (e_f T 3 (e_name 0 rfl) rfl) rfl (.head _) kq
abbrev s_nested : Stmt := inClass sCls 10
theorem sc_nested : FnScope ["self"] ["self"] (defScope s_nested) := ⟨rfl, rfl, rfl, by decide +kernel, rfl, by decide +kernel, by decide +kernel⟩
theorem ok_nested {f C : Addr} {fd : FuncData} (F : Fun K "nested" "Formula.nested" s_nested f fd) (hC : ∃ C p, mg "Formula" = some (.ref C) ∧ Cls K C ∧ PropOf K C "nested" p f) (hb : Binds K fd ["self"] []) (T : FmT w K mg C) : PropD P w K mg base "nested" (fun f => .int (f.nest : Nat)) 1 := by
  refine prp_of hC F sc_nested hb (fun i => rfl) fun cdv A outer s H0 E g M Q hp hr kq => ?_
  exact at_end (e_f T 4 (e_name 0 rfl) rfl) rfl (.head _) kq
abbrev s_depth : Stmt := inClass sCls 11
theorem sc_depth : FnScope ["self"] ["self"] (defScope s_depth) := ⟨rfl, rfl, rfl, by decide +kernel, rfl, by decide +kernel, by decide +kernel⟩
theorem ok_depth {f C : Addr} {fd : FuncData} (F : Fun K "depth" "Formula.depth" s_depth f fd) (hC : ∃ C p, mg "Formula" = some (.ref C) ∧ Cls K C ∧ PropOf K C "depth" p f) (hb : Binds K fd ["self"] []) (T : FmT w K mg C) : PropD P w K mg base "depth" (fun f => .int (f.dep : Nat)) 1 := by
  refine prp_of hC F sc_depth hb (fun i => rfl) fun cdv A outer s H0 E g M Q hp hr kq => ?_
  exact at_end (e_f T 5 (e_name 0 rfl) rfl) rfl (.head _) kq
theorem scText : FnScope ["self"] ["self"] (defScope sText) := ⟨rfl, rfl, rfl, by decide +kernel, rfl, by decide +kernel, by decide +kernel⟩
theorem scParts : FnScope ["self"] ["self"] (defScope sParts) := ⟨rfl, rfl, rfl, by decide +kernel, rfl, by decide +kernel, by decide +kernel⟩
theorem ok_text {f C : Addr} {fd : FuncData} (F : Fun K "text" "Formula.text" sText f fd) (hC : ∃ C, mg "Formula" = some (.ref C) ∧ Cls K C ∧ Meth K C "text" f) (hb : Binds K fd ["self"] []) (T : FmT w K mg C) : M0D P w K mg base "text" (fun f => .str f.t) 1 := by
  refine mth_of hC F scText hb (fun i => rfl) fun cdv A outer s H0 E g M Q hp hr kq => ?_
  exact at_end (e_f T 2 (e_name 0 rfl) rfl) rfl (.head _) kq
theorem ok_parts {f C : Addr} {fd : FuncData} (F : Fun K "parts" "Formula.parts" sParts f fd) (hC : ∃ C, mg "Formula" = some (.ref C) ∧ Cls K C ∧ Meth K C "parts" f) (hb : Binds K fd ["self"] []) (B : Blt mg) (T : FmT w K mg C) : M0D P w K mg base "parts" (fun f => .lst (f.inner.map Fm.o)) 1 := by
  refine mth_of hC F scParts hb (fun i => rfl) fun cdv A outer s H0 E g M Q hp hr kq => ?_
  refine at_end (e_if (x := .lst (g.inner.map Fm.o)) (t_cmp (e_f T 0 (e_name 0 rfl) rfl) e_str (by walk_at "cd")) rfl (fun h => ?_) fun h => ?_) rfl (.head _) kq
  · obtain ⟨c, rfl⟩ := w_le g h
    exact EE.eq (x := .lst []) (e_lst a_nil) rfl
  · refine EE.eq (e_bty kd_listL (a_cons (e_f T 1 (e_name 0 rfl) rfl) a_nil) B.list) ?_
    cases g with
    | le c => simp [Fm.w] at h
    | _ => rfl
/-! ### __init__ -/
theorem sz_eq (f : Fm) : (1 : Int) + (f.inner.map fun g => (g.sz : Int)).sum = (f.sz : Nat) := by
  cases f <;> simp [Fm.inner, Fm.sz] <;> omega
theorem nest_eq (f : Fm) : (1 : Int) + maxDI 0 (f.inner.map fun g => (g.nest : Int)) = (f.nest : Nat) := by
  cases f with
  | bin o a b => simp [Fm.inner, Fm.nest, maxDI, maxI]; omega
  | _ => rfl
theorem dep_eq (f : Fm) : (if decide (f.w = ("if" : Str)) = true then (1 : Int) else 0) + maxDI 0 (f.inner.map fun g => (g.dep : Int)) = (f.dep : Nat) := by
  cases f with
  | cst b =>
    have : decide ((Fm.cst b).w = ("if" : Str)) = false := by cases b <;> decide +kernel
    rw [this]; rfl
  | le c =>
    have : decide ((("letter" : Str)) = ("if" : Str)) = false := by decide +kernel
    show (if decide ((("letter" : Str)) = ("if" : Str)) = true then (1 : Int) else 0) + _ = _
    rw [this]; rfl
  | bin o a b =>
    have : decide ((Fm.bin o a b).w = ("if" : Str)) = decide (o = .im) := by
      show decide (o.w = ("if" : Str)) = _
      cases o <;> decide +kernel
    rw [this]
    simp only [Fm.inner, List.map_cons, List.map_nil, maxDI, maxI, Fm.dep, decide_eq_true_eq]
    split <;> push_cast <;> omega
theorem one_l : ∀ c ∈ alpha, alpha.filter (fun x => decide (x = c)) = [c] := by decide +kernel
theorem l_le {c : Nat} (h : c ∈ alpha) : (Fm.le c).l = sg c := by
  apply ext_tl
  show alpha.filter (fun x => decide (x = c)) = [c]
  exact one_l c h
theorem l_in (f : Fm) (h : ∀ c, f ≠ .le c) : strOf (letsOf (f.inner.map Fm.l)) = f.l := by
  apply ext_tl
  rw [show tl (strOf (letsOf (f.inner.map Fm.l))) = letsOf (f.inner.map Fm.l) from rfl, tl_l]
  unfold letsOf
  apply List.filter_congr
  intro c hc
  cases f with
  | le c => exact absurd rfl (h c)
  | cst b => rfl
  | bin o a b =>
    show (decide (c ∈ tl a.l) || (decide (c ∈ tl b.l) || false)) = (a.has c || b.has c)
    rw [tl_l, tl_l]
    simp [List.mem_filter, hc]
abbrev MkF (P : Program) (w : World) (K : PySem.W.Frag) (mg : Str → Option Value) (base : Heap) (k : Nat) : Prop := Mkr P w K mg base "Formula" k (mkSp K mg "Formula" (fun f : Fm => f.ok ∧ f.sz ≤ 10000) (fun f => [.str f.w] ++ f.parts) fnames Fm.fs)
theorem scInit : FnScope ["self", "word", "parts", "inner", "part"] ((["self", "word"] : List Str) ++ (["parts"] : List Str)) (defScope sInit) := ⟨rfl, rfl, rfl, by decide +kernel, rfl, by decide +kernel, by decide +kernel⟩
theorem ok_init {f C : Addr} {fd : FuncData} (F : Fun K "__init__" "Formula.__init__" sInit f fd) (hC : ∃ C, mg "Formula" = some (.ref C) ∧ Mk K C f) (B : Blt mg) (T : FmT w K mg C) (IF : IsFormD P w K mg base 3) (TI : TextInD P w K mg base 4) (LI : LetInD P w K mg base 2)
    (PL : PropD P w K mg base "letters" (fun f => .str f.l) 1) (PS : PropD P w K mg base "size" (fun f => .int (f.sz : Nat)) 1) (PN : PropD P w K mg base "nested" (fun f => .int (f.nest : Nat)) 1) (PD : PropD P w K mg base "depth" (fun f => .int (f.dep : Nat)) 1) : MkF P w K mg base 5 := by
  refine mkr_star (ps := ["self", "word"]) (pv := "parts") (heads := fun f : Fm => [.str f.w]) (parts := Fm.parts) hC F scInit (fun _ _ _ _ _ _ us rest hl => match us, rest, hl with
    | [_, _], [], _ => rfl
    | [_, _], _ :: _, _ => rfl) (fun i => rfl) (fun i _ => by cases i <;> simp [Fm.parts]) fun cdv A outer s H0 E g M ad Q hp hr kq nm => ?_
  obtain ⟨hok, hsz⟩ := hp
  have il : g.inner.length ≤ 2 := by cases g <;> simp [Fm.inner]
  refine at_if (b0 := false) (cs1 := [(ad, .obj "Formula" [] [])]) ?_ (fun h => by cases h) (fun _ => at_nil ?_)
  · exact t_not (k0 := true) (t_val (EE.eq (e_call IF (hr.mono (show 3 ≤ 4 by decide)) (a_cons (e_name 1 rfl) (a_cons (e_name 2 rfl) a_nil)) g hok rfl) rfl))
  refine at_fldN (e_name 1 rfl) (e_name 0 rfl) T.hm T.cl (T.no _ (by decide +kernel)) (by decide) (by decide +kernel) .here ?_
  refine at_fldN (e_bty kd_listT (a_cons (e_name 2 rfl) a_nil) B.list) (e_name 0 rfl) T.hm T.cl (T.no _ (by decide +kernel)) (by decide) (by decide +kernel) .here ?_
  refine at_fldN (EE.eq (e_call TI (hr.mono (show 4 ≤ 4 by decide)) (a_cons (e_name 1 rfl) (a_cons (e_name 2 rfl) a_nil)) g hsz rfl) rfl) (e_name 0 rfl) T.hm T.cl (T.no _ (by decide +kernel)) (by decide) (by decide +kernel) .here ?_
  refine at_set 3 (d := .lst (g.inner.map Fm.o)) (e_if (t_cmp (e_name 1 rfl) e_str (by walk_at "cd")) rfl (fun h => by
      obtain ⟨c, rfl⟩ := w_le g h
      exact EE.eq (x := .lst []) (e_lst a_nil) rfl) (fun h => EE.eq (e_fldc (e_name 0 rfl) (.head _) T.hm T.cl (T.no _ (by decide +kernel)) 1 (by decide +kernel) rfl) (by
        cases g with
        | le c => simp [Fm.w] at h
        | _ => rfl))) ?_ scInit.nd
  refine at_fldN (d := .int (g.sz : Nat)) (EE.eq (e_bin e_int (e_blt (kd_sum (ns := g.inner.map fun g => (g.sz : Int))) (a_cons (EE.eq (e_lcM [("part", 4)] g.inner Fm.o (fun g => D.int (g.sz : Nat)) (ei_list (e_name 3 rfl)) (ctg_name 4 scInit.nd (by decide) rfl) (fun _ _ => trivial) (by omega)
      (fun g hg M' hM s2 H2 C2 cl2 fp2 => e_fp PS (hr.mono (by decide)) (e_name 4 rfl)) (blkOk_by rfl) scInit.nd) (by simp)) a_nil) B.sum) (by walk_at "bd")) (by rw [sz_eq])) (e_name 0 rfl) T.hm T.cl (T.no _ (by decide +kernel)) (by decide) (by decide +kernel) .here ?_
  refine at_fldN (d := .int (g.nest : Nat)) (EE.eq (e_bin e_int (e_maxD (ns := g.inner.map fun g => (g.nest : Int)) (hk := fun t h => pk_cons h pk_nil) (EE.eq (e_lcM [("part", 4)] g.inner Fm.o (fun g => D.int (g.nest : Nat)) (ei_list (e_name 3 rfl)) (ctg_name 4 scInit.nd (by decide) rfl) (fun _ _ => trivial) (by omega)
      (fun g hg M' hM s2 H2 C2 cl2 fp2 => e_fp PN (hr.mono (by decide)) (e_name 4 rfl)) (blkOk_by rfl) scInit.nd) (by simp)) e_int B.max) (by walk_at "bd")) (by rw [nest_eq])) (e_name 0 rfl) T.hm T.cl (T.no _ (by decide +kernel)) (by decide) (by decide +kernel) .here ?_
  refine at_fldN (d := .int (g.dep : Nat)) (EE.eq (e_bin (e_bty kd_intB (a_cons (e_cmp (e_name 1 rfl) e_str (by walk_at "cd")) a_nil) B.int) (e_maxD (ns := g.inner.map fun g => (g.dep : Int)) (hk := fun t h => pk_cons h pk_nil) (EE.eq (e_lcM [("part", 4)] g.inner Fm.o (fun g => D.int (g.dep : Nat)) (ei_list (e_name 3 rfl)) (ctg_name 4 scInit.nd (by decide) rfl) (fun _ _ => trivial) (by omega)
      (fun g hg M' hM s2 H2 C2 cl2 fp2 => e_fp PD (hr.mono (by decide)) (e_name 4 rfl)) (blkOk_by rfl) scInit.nd) (by simp)) e_int B.max) (by walk_at "bd")) (by rw [dep_eq])) (e_name 0 rfl) T.hm T.cl (T.no _ (by decide +kernel)) (by decide) (by decide +kernel) .here ?_
  refine at_fldN (d := .str g.l) (e_if (t_cmp (e_name 1 rfl) e_str (by walk_at "cd")) rfl (fun h => by
      obtain ⟨c, rfl⟩ := w_le g h
      exact EE.eq (e_ix (e_name 2 rfl) e_int (xd_tup (j := 0) rfl rfl)) (by rw [l_le hok])) (fun h => EE.eq (e_call LI (hr.mono (by decide)) (a_cons (e_lcM [("part", 4)] g.inner Fm.o (fun g => D.str g.l) (ei_list (e_name 3 rfl)) (ctg_name 4 scInit.nd (by decide) rfl) (fun _ _ => trivial) (by omega)
      (fun g hg M' hM s2 H2 C2 cl2 fp2 => e_fp PL (hr.mono (by decide)) (e_name 4 rfl)) (blkOk_by rfl) scInit.nd) a_nil) (g.inner.map Fm.l) (by simp; omega) (by simp)) (by
        rw [l_in]
        rintro c rfl
        simp [Fm.w] at h))) (e_name 0 rfl) T.hm T.cl (T.no _ (by decide +kernel)) (by decide) (by decide +kernel) .here ?_
  exact at_endI (.head _) rfl nm kq fun _ _ h => h
end
end Od

set_option Elab.async false
set_option linter.all false
set_option maxRecDepth 100000
set_option maxHeartbeats 4000000
namespace Od
open PySem L2 TL PySem.Spec
local macro_rules
  | `(tactic| walk_at "bd") => `(tactic| first | exact bd_add | exact bd_sub | exact bd_mulR (by decide) | exact bd_mulL (by decide) | exact bd_mod (by decide) | exact bd_div (by decide))
local macro_rules
  | `(tactic| walk_at "cd") => `(tactic| first | exact cd_lt | exact cd_le | exact cd_gt | exact cd_ge | exact cd_eqI | exact cd_eqS)
section
variable {P : Program} {w : World} {K : PySem.W.Frag} {mg : Str → Option Value} {base : Heap}
theorem e_mk {X : Cx} {M : Addr → Prop} {e : DE} {cs cs1 : Cs} {pos p : Pos} {a : Expr} {es : List Expr} {ds : List D} {k : Nat} {d : D} (F : MkF X.prog X.w X.K X.mg X.base k) (hr : Room (k + 1) X.A) (ha : EA X M e cs (a :: es) ds cs1) (g : Fm) (hp : g.ok ∧ g.sz ≤ 10000) (hds : ds = [.str g.w] ++ g.parts) (hd : g.o = d := by rfl) (hg : Gl X "Formula" := by rfl)
    (he : starEach (a :: es) X.env = (false, eval a X.env) :: starEach es X.env := by rfl) (hpl : (backTo pos (starEach es X.env)).any (·.1) = false := by rfl) : EE X M e cs (.Call (.Name "Formula" p) (a :: es) [] pos) d cs1 :=
  (e_make F hr ha g hp hds hg (by decide) he hpl).eq (g.o_eq.symm.trans hd)
abbrev NegD (P : Program) (w : World) (K : PySem.W.Frag) (mg : Str → Option Value) (base : Heap) (k : Nat) : Prop := Dun P w K mg base "Formula" "__neg__" k (puSp K mg (fun f : Fm => f.ok ∧ f.sz ≤ 9998) (fun f => [f.o]) (fun f => (Fm.bin .im f (.cst false)).o))
abbrev EqD (P : Program) (w : World) (K : PySem.W.Frag) (mg : Str → Option Value) (base : Heap) (k : Nat) : Prop := Dun P w K mg base "Formula" "__eq__" k (puSp K mg (fun p : Fm × Fm => True) (fun p => [p.1.o, p.2.o]) (fun p => .bl (decide (p.1.t = p.2.t))))
abbrev LetterD (P : Program) (w : World) (K : PySem.W.Frag) (mg : Str → Option Value) (base : Heap) (k : Nat) : Prop := Stc P w K mg base "Formula" "letter" k (puSp K mg (fun c : Nat => c ∈ alpha) (fun c => [.str (sg c)]) (fun c => (Fm.le c).o))
abbrev CstD (P : Program) (w : World) (K : PySem.W.Frag) (mg : Str → Option Value) (base : Heap) (n : Str) (b : Bool) (k : Nat) : Prop := Stc P w K mg base "Formula" n k (puSp K mg (fun _ : Unit => True) (fun _ => []) (fun _ => (Fm.cst b).o))
theorem scNeg : FnScope ["self"] ["self"] (defScope sNeg) := ⟨rfl, rfl, rfl, by decide +kernel, rfl, by decide +kernel, by decide +kernel⟩
theorem scEq : FnScope ["self", "other"] ["self", "other"] (defScope sEq) := ⟨rfl, rfl, rfl, by decide +kernel, rfl, by decide +kernel, by decide +kernel⟩
theorem scLetter : FnScope ["name"] ["name"] (defScope sLetter) := ⟨rfl, rfl, rfl, by decide +kernel, rfl, by decide +kernel, by decide +kernel⟩
theorem scTrue : FnScope [] [] (defScope sTrue) := ⟨rfl, rfl, rfl, by decide +kernel, rfl, by decide +kernel, by decide +kernel⟩
theorem scFalse : FnScope [] [] (defScope sFalse) := ⟨rfl, rfl, rfl, by decide +kernel, rfl, by decide +kernel, by decide +kernel⟩
theorem ok_neg {f : Addr} {fd : FuncData} (F : Fun K "__neg__" "Formula.__neg__" sNeg f fd) (hC : ∃ C, mg "Formula" = some (.ref C) ∧ PySem.W.findIn K (.ref C) "__neg__" = some (some (.ref f)) ∧ PySem.W.isFn K (.ref f) = true) (hb : Binds K fd ["self"] []) (MK : MkF P w K mg base 5) : NegD P w K mg base 7 := by
  refine dun_of hC F scNeg hb (fun i => rfl) fun cdv A outer s H0 E g M Q hp hr kq => ?_
  exact at_end (e_mk MK hr (a_cons e_str (a_cons (e_name 0 rfl) (a_cons (e_mk MK hr (a_cons e_str a_nil) (.cst false) ⟨trivial, by decide⟩ rfl) a_nil))) (.bin .im g (.cst false)) ⟨⟨hp.1, trivial⟩, by have := hp.2; simp only [Fm.sz]; omega⟩ rfl) rfl (.head _) kq
theorem ok_eq {f C : Addr} {fd : FuncData} (F : Fun K "__eq__" "Formula.__eq__" sEq f fd) (hC : ∃ C, mg "Formula" = some (.ref C) ∧ PySem.W.findIn K (.ref C) "__eq__" = some (some (.ref f)) ∧ PySem.W.isFn K (.ref f) = true) (hb : Binds K fd ["self", "other"] []) (B : Blt mg) (T : FmT w K mg C) : EqD P w K mg base 2 := by
  refine dun_of hC F scEq hb (fun i => rfl) fun cdv A outer s H0 E g M Q hp hr kq => ?_
  obtain ⟨g1, g2⟩ := g
  exact at_end (e_and (p0 := true) (q0 := decide (g1.t = g2.t)) (e_blt (kd_isiOC T.hm T.ci T.kit) (a_cons ((e_name 1 rfl).eq g2.o_eq) (a_cons (e_gref T.hm) a_nil)) B.isinstance) fun _ => e_one (e_cmp (e_f T 2 (e_name 0 rfl) rfl) (e_f T 2 (e_name 1 rfl) rfl) (by walk_at "cd"))) rfl (.head _) kq
theorem ok_letter {f : Addr} {fd : FuncData} (F : Fun K "letter" "Formula.letter" sLetter f fd) (hC : ∃ C mc, mg "Formula" = some (.ref C) ∧ ClX.CRead K C mc ∧ CStm K C mc "letter" f) (hb : Binds K fd ["name"] []) (L : IsLetD P w K mg base 2) (MK : MkF P w K mg base 5) : LetterD P w K mg base 7 := by
  refine stc_of hC F scLetter hb (fun i => rfl) fun cdv A outer s H0 E c M Q hp hr kq => ?_
  refine at_if (b0 := false) (cs1 := []) ?_ (fun h => by cases h) (fun _ => at_nil ?_)
  · exact t_not (k0 := true) (t_val (EE.eq (e_call L (hr.mono (show 2 ≤ 6 by decide)) (a_cons (e_name 0 rfl) a_nil) (sg c) (by show 1 ≤ 100000; decide) rfl) (by rw [isLet_sg hp])))
  · exact at_end (e_mk MK hr (a_cons e_str (a_cons (e_name 0 rfl) a_nil)) (.le c) ⟨hp, by show 1 ≤ 10000; decide⟩ rfl) rfl (.head _) kq
theorem ok_true {f : Addr} {fd : FuncData} (F : Fun K "true" "Formula.true" sTrue f fd) (hC : ∃ C mc, mg "Formula" = some (.ref C) ∧ ClX.CRead K C mc ∧ CStm K C mc "true" f) (hb : Binds K fd [] []) (MK : MkF P w K mg base 5) : CstD P w K mg base "true" true 7 := by
  refine stc_of hC F scTrue hb (fun i => rfl) fun cdv A outer s H0 E c M Q hp hr kq => ?_
  exact at_end (e_mk MK hr (a_cons e_str a_nil) (.cst true) ⟨trivial, by decide⟩ rfl) rfl (.head _) kq
theorem ok_false {f : Addr} {fd : FuncData} (F : Fun K "false" "Formula.false" sFalse f fd) (hC : ∃ C mc, mg "Formula" = some (.ref C) ∧ ClX.CRead K C mc ∧ CStm K C mc "false" f) (hb : Binds K fd [] []) (MK : MkF P w K mg base 5) : CstD P w K mg base "false" false 7 := by
  refine stc_of hC F scFalse hb (fun i => rfl) fun cdv A outer s H0 E c M Q hp hr kq => ?_
  exact at_end (e_mk MK hr (a_cons e_str a_nil) (.cst false) ⟨trivial, by decide⟩ rfl) rfl (.head _) kq
end
end Od

set_option Elab.async false
set_option linter.all false
set_option maxRecDepth 100000
set_option maxHeartbeats 4000000
/-! FmS: texts of formulas, sign for sign (taken out of K6a, K6b; no program in it) -/
namespace Od
open PySem L2 TL PySem.Spec
/-- t stands in s from i on -/
def Std (s : List Nat) (i : Nat) (t : List Nat) : Prop := ∃ post, s.drop i = t ++ post
theorem Std.left {s : List Nat} {i : Nat} {t u : List Nat} (h : Std s i (t ++ u)) : Std s i t := by
  obtain ⟨p, h⟩ := h
  exact ⟨u ++ p, by rw [h, List.append_assoc]⟩
theorem Std.right {s : List Nat} {i : Nat} {t u : List Nat} (h : Std s i (t ++ u)) : Std s (i + t.length) u := by
  obtain ⟨p, h⟩ := h
  refine ⟨p, ?_⟩
  rw [← List.drop_drop, h, List.append_assoc, List.drop_left]
theorem Std.le {s : List Nat} {i : Nat} {t : List Nat} (h : Std s i t) (ht : t ≠ []) : i + t.length ≤ s.length := by
  obtain ⟨p, h⟩ := h
  have := congrArg List.length h
  simp at this
  have : 0 < t.length := List.length_pos_iff.mpr ht
  omega
theorem Std.sign {s : Str} {i c : Nat} {r : List Nat} (h : Std (tl s) i (c :: r)) : cutS s (some (i : Int)) (some ((i : Int) + 1)) = sg c := by
  have hl := h.le (by simp)
  obtain ⟨p, h⟩ := h
  apply ext_tl
  unfold cutS
  have hs : s.length = (tl s).length := len_tl s
  simp at hl
  have e1 : HT.sIx s.length 0 (some (i : Int)) = i := by rw [HT.sIx_nat]; rw [hs]; simp; omega
  have e2 : HT.sIx s.length s.length (some ((i : Int) + 1)) = i + 1 := by
    rw [show ((i : Int) + 1) = ((i + 1 : Nat) : Int) by omega, HT.sIx_nat]; rw [hs]; simp; omega
  rw [e1, e2]
  show ((tl s).drop i).take (i + 1 - i) = [c]
  rw [h]
  have : i + 1 - i = 1 := by omega
  rw [this]; rfl
/-- what stands behind the bracket -/
def inText (o : Op) (a b : Fm) : List Nat := tl a.t ++ tl o.s ++ tl b.t ++ [41]
theorem tl_bin {o : Op} {a b : Fm} (h : ¬ (o = .im ∧ b = .cst false)) : tl (Fm.bin o a b).t = 40 :: inText o a b := by
  have e : (Fm.bin o a b).t = ("(" : Str) ++ a.t ++ o.s ++ b.t ++ (")" : Str) := by
    conv => lhs; unfold Fm.t
    exact if_neg h
  rw [e, tl_app, tl_app, tl_app, tl_app, show tl (("(" : Str)) = [40] by decide +kernel, show tl ((")" : Str)) = [41] by decide +kernel]
  unfold inText; simp
theorem tl_neg {a : Fm} : tl (Fm.bin .im a (.cst false)).t = 45 :: tl a.t := by
  have e : (Fm.bin .im a (.cst false)).t = ("-" : Str) ++ a.t := by
    conv => lhs; unfold Fm.t
    exact if_pos ⟨rfl, rfl⟩
  rw [e, tl_app, show tl (("-" : Str)) = [45] by decide +kernel]; rfl
theorem sgn (c : Nat) (s : Str) (h : tl s = [c]) : s = sg c := ext_tl (by rw [h]; rfl)
theorem t1 : (("1" : Str)) = sg 49 := sgn _ _ (by decide +kernel)
theorem t0 : (("0" : Str)) = sg 48 := sgn _ _ (by decide +kernel)
theorem tm : (("-" : Str)) = sg 45 := sgn _ _ (by decide +kernel)
theorem tb : (("(" : Str)) = sg 40 := sgn _ _ (by decide +kernel)
theorem sg_ne {a b : Nat} (h : a ≠ b) : decide (sg a = sg b) = false := by
  rw [decide_eq_false_iff_not]
  intro z
  have := congrArg tl z
  simp at this; exact h this
theorem sg_eq {a : Nat} : decide (sg a = sg a) = true := by simp
theorem let_ge {c : Nat} (h : c ∈ alpha) : 97 ≤ c := by
  obtain ⟨k, _, rfl⟩ := List.mem_map.mp h
  omega
theorem first_sign (f : Fm) : ∃ c r, tl f.t = c :: r := by
  cases f with
  | cst b => cases b <;> exact ⟨_, _, rfl⟩
  | le c => exact ⟨c, [], rfl⟩
  | bin o a b =>
    by_cases h : o = .im ∧ b = .cst false
    · obtain ⟨rfl, rfl⟩ := h
      exact ⟨_, _, tl_neg⟩
    · exact ⟨_, _, tl_bin h⟩
theorem inText_parts {o : Op} {a b : Fm} {s : List Nat} {i : Nat} (h : Std s i (inText o a b)) : Std s i (tl a.t) ∧ Std s (i + (tl a.t).length) (tl o.s) ∧ Std s (i + (tl a.t).length + (tl o.s).length) (tl b.t) ∧ Std s (i + (tl a.t).length + (tl o.s).length + (tl b.t).length) [41] := by
  unfold inText at h
  have h1 := h.left
  have h2 := h1.left
  have e3 := Std.right (t := tl a.t ++ tl o.s ++ tl b.t) (u := [41]) h
  have e2 := Std.right (t := tl a.t ++ tl o.s) (u := tl b.t) h1
  have e1 := Std.right (t := tl a.t) (u := tl o.s) h2
  simp only [List.length_append] at e2 e3
  refine ⟨h2.left, e1, ?_, ?_⟩
  · rw [show i + (tl a.t).length + (tl o.s).length = i + ((tl a.t).length + (tl o.s).length) by omega]; exact e2
  · rw [show i + (tl a.t).length + (tl o.s).length + (tl b.t).length = i + ((tl a.t).length + (tl o.s).length + (tl b.t).length) by omega]; exact e3
/-- the sign of the operator -/
def opc : Op → Nat
  | .an => 38
  | .orr => 124
  | .im => 45
def opt : Op → List Nat
  | .an => [38]
  | .orr => [124]
  | .im => [45, 62]
def ops : Op → Str
  | .an => "&"
  | .orr => "|"
  | .im => "->"
theorem tl_ops (o : Op) : tl (ops o) = opt o := by cases o <;> decide +kernel
theorem tl_os (o : Op) : tl o.s = 32 :: (opt o ++ [32]) := by cases o <;> decide +kernel
theorem opt_c (o : Op) : ∃ r, opt o = opc o :: r := by cases o <;> exact ⟨_, rfl⟩
theorem Std.at {s : Str} {i c : Nat} {r : List Nat} (h : Std (tl s) i (c :: r)) : i < s.cps.toList.length ∧ s.cps.toList[i]? = some c := by
  have hl := h.le (by simp)
  obtain ⟨p, h⟩ := h
  refine ⟨by show i < (tl s).length; simp only [List.length_cons] at hl; omega, ?_⟩
  show (tl s)[i]? = _
  have : ((tl s).drop i)[0]? = some c := by rw [h]; rfl
  simpa using this
theorem xd_std {X : Cx} {s : Str} {i c : Nat} {r : List Nat} (h : Std (tl s) i (c :: r)) (hl : s.length ≤ 100000) : IxD X (.str s) (.int (i : Int)) (.str (sg c)) :=
  xd_str (Nat.le_trans hl (by decide)) (ixN_nat h.at.1) h.at.2
end Od

set_option Elab.async false
set_option linter.all false
set_option maxRecDepth 100000
set_option maxHeartbeats 4000000
/-! Od25: dicts that are walked (locked the while). -/
namespace Od
open PySem L2
def keyD : Key → D
  | .inl i => .int i
  | .inr s => .str s
theorem r_key {K : PySem.W.Frag} {mg : Str → Option Value} {M : Addr → Prop} {H : Hp} (k : Key) : R K mg M H (kV k) (keyD k) := by
  cases k <;> simp [keyD, kV, R]
/-! ### another state of a dict that holds the same -/
/-- H' is H but for how the dict at d stands there -/
structure Swp (H H' : Hp) (d : Addr) (kvs : List (Key × V)) : Prop where
  ne : ∀ b, b ≠ d → H' b = H b
  a : Rd H d (.dK kvs)
  b : Rd H' d (.dK kvs)
theorem Rd.inj {H : Hp} {d : Addr} {kvs kvs' : List (Key × V)} (a : Rd H d (.dK kvs)) (b : Rd H d (.dK kvs')) : kvs = kvs' := by
  rcases a with a | ⟨o, a⟩ <;> rcases b with b | ⟨o', b⟩ <;> rw [a] at b
  · cases b; rfl
  · cases b
  · cases b
  · cases b; rfl
section
variable {K : PySem.W.Frag} {mg : Str → Option Value} {M : Addr → Prop} {H H' : Hp} {d : Addr} {kvs : List (Key × V)}
theorem Swp.sym (w : Swp H H' d kvs) : Swp H' H d kvs := ⟨fun b h => (w.ne b h).symm, w.b, w.a⟩
theorem Swp.nd (w : Swp H H' d kvs) {a : Addr} {o : HO} (h : H a = some o) (h1 : ∀ k, o ≠ .dK k) (h2 : ∀ ob u, o ≠ .frz ob u) : H' a = some o := by
  have : a ≠ d := fun z => by
    subst z
    rcases w.a with q | ⟨ob, q⟩ <;> rw [q] at h <;> cases h
    · exact h1 _ rfl
    · exact h2 _ _ rfl
  rw [w.ne a this]; exact h
theorem Swp.dk (w : Swp H H' d kvs) {a : Addr} {k : List (Key × V)} (h : Rd H a (.dK k)) : Rd H' a (.dK k) := by
  by_cases z : a = d
  · subst z
    rw [Rd.inj h w.a]; exact w.b
  · rcases h with h | ⟨o, h⟩
    · exact .inl (by rw [w.ne a z]; exact h)
    · exact .inr ⟨o, by rw [w.ne a z]; exact h⟩
theorem Swp.ls (w : Swp H H' d kvs) {a : Addr} {k : List V} (h : Rd H a (.lst k)) : Rd H' a (.lst k) := by
  have z : a ≠ d := fun z => by
    subst z
    rcases w.a with q | ⟨ob, q⟩ <;> rcases h with h | ⟨o, h⟩ <;> rw [q] at h <;> cases h
  rcases h with h | ⟨o, h⟩
  · exact .inl (by rw [w.ne a z]; exact h)
  · exact .inr ⟨o, by rw [w.ne a z]; exact h⟩
mutual
theorem R.swp (w : Swp H H' d kvs) : ∀ (x : D) {v : V}, R K mg M H v x → R K mg M H' v x
  | .lam _, _, h => by
    unfold R at h ⊢
    obtain ⟨f, c', dV, e, n1, h1, n2, h2, h3⟩ := h
    exact ⟨f, c', dV, e, n1, w.nd h1 (fun _ z => by cases z) (fun _ _ z => by cases z), n2, w.nd h2 (fun _ z => by cases z) (fun _ _ z => by cases z), h3.imp_right fun ⟨t, e1, n3, q⟩ => ⟨t, e1, n3, w.nd q (fun _ z => by cases z) (fun _ _ z => by cases z)⟩⟩
  | .non, _, h => h
  | .bl _, _, h => h
  | .int _, _, h => h
  | .str _, _, h => h
  | .ref _, _, h => h
  | .ty _, _, h => h
  | .lst ds, v, h => by
    unfold R at h ⊢
    obtain ⟨a, xs, e, n, q, r⟩ := h
    exact ⟨a, xs, e, n, w.nd q (fun _ z => by cases z) (fun _ _ z => by cases z), Rs.swp w ds r⟩
  | .tup ds, v, h => by
    unfold R at h ⊢
    obtain ⟨a, xs, e, q, r⟩ := h
    refine ⟨a, xs, e, ?_, Rs.swp w ds r⟩
    rcases q with ⟨n, q⟩ | q
    · exact .inl ⟨n, w.nd q (fun _ z => by cases z) (fun _ _ z => by cases z)⟩
    · exact .inr q
  | .obj c ns ds, v, h => by
    unfold R at h ⊢
    obtain ⟨a, C, dx, xs, e, n, g, q, l, r⟩ := h
    exact ⟨a, C, dx, xs, e, n, g, w.nd q (fun _ z => by cases z) (fun _ _ z => by cases z), l, Rs.swp w ds r⟩
  | .dic ks ds, v, h => by
    unfold R at h ⊢
    obtain ⟨a, xs, e, n, q, l, r⟩ := h
    exact ⟨a, xs, e, n, w.dk q, l, Rs.swp w ds r⟩
  | .exc a dd ns ds, v, h => by
    unfold R at h ⊢
    obtain ⟨xs, e, n, q, l, r⟩ := h
    exact ⟨xs, e, n, w.nd q (fun _ z => by cases z) (fun _ _ z => by cases z), l, Rs.swp w ds r⟩
  | .scr ns, v, h => by
    unfold R at h ⊢
    obtain ⟨a, e, q⟩ := h
    refine ⟨a, e, ?_⟩
    rcases q with ⟨n, q⟩ | q
    · exact .inl ⟨n, w.ls q⟩
    · exact .inr q
theorem Rs.swp (w : Swp H H' d kvs) : ∀ (ds : List D) {xs : List V}, Rs K mg M H xs ds → Rs K mg M H' xs ds
  | [], [], _ => by unfold Rs; trivial
  | [], _ :: _, h => by unfold Rs at h; exact h.elim
  | _ :: _, [], h => by unfold Rs at h; exact h.elim
  | x :: ds, v :: xs, h => by
    unfold Rs at h ⊢
    exact ⟨R.swp w x h.1, Rs.swp w ds h.2⟩
end
theorem Cell.swp (w : Swp H H' d kvs) {a : Addr} (na : a ≠ d) : ∀ {c : MC}, Cell K mg M H a c → Cell K mg M H' a c
  | .tab _, ⟨ps, q, t, r⟩ => ⟨ps, by rw [w.ne a na]; exact q, t, fun pos cv hc => by
      obtain ⟨c, e1, n, h1⟩ := r pos cv hc
      exact ⟨c, e1, n, w.nd h1 (fun _ z => by cases z) (fun _ _ z => by cases z)⟩⟩
  | .lst _, ⟨xs, q, r⟩ => ⟨xs, by rw [w.ne a na]; exact q, Rs.swp w _ r⟩
  | .obj _ _ _, ⟨C, dx, xs, g, q, l, r⟩ => ⟨C, dx, xs, g, by rw [w.ne a na]; exact q, l, Rs.swp w _ r⟩
  | .dic _ _, ⟨xs, q, l, r⟩ => ⟨xs, by rw [w.ne a na]; exact q, l, Rs.swp w _ r⟩
theorem Sit.swp {σ : L2.St} {e : DE} {cs : Cs} (w : Swp H H' d kvs) (nm : ¬ M d) (S : Sit K mg M σ H e cs) : Sit K mg M σ H' e cs where
  mt := fun a m => by
    have : a ≠ d := fun z => nm (z ▸ m)
    rw [w.ne a this]; exact S.mt a m
  len := S.len
  env := fun i x q => by
    obtain ⟨v, e1, r⟩ := S.env i x q
    exact ⟨v, e1, R.swp w x r⟩
  cel := fun p hp => ⟨(S.cel p hp).1, (S.cel p hp).2.swp w fun z => nm (z ▸ (S.cel p hp).1)⟩
  nd := S.nd
theorem lock_swp {od : Obj} (h : H d = some (.dK kvs)) : Swp H (upd H d (.frz od (.dK kvs))) d kvs := ⟨fun b n => upd_ne n, .inl h, .inr ⟨od, upd_same⟩⟩
theorem unlock_swp {od : Obj} (h : H d = some (.frz od (.dK kvs))) : Swp H (upd H d (.dK kvs)) d kvs := ⟨fun b n => upd_ne n, .inr ⟨od, h⟩, .inl upd_same⟩
/-- locked, then anything, then unlocked: as if never locked -/
theorem ext_lock {od : Obj} {A : List Addr} {H2 : Hp} (h : H d = some (.dK kvs)) (nd : d ∉ A) (x : Ext A (upd H d (.frz od (.dK kvs))) H2) : Ext A H (upd H2 d (.dK kvs)) := fun a o q n => by
  by_cases z : a = d
  · subst z
    rw [upd_same, ← q, h]
  · rw [upd_ne z]
    exact x a o (by rw [upd_ne z]; exact q) n
end
/-! ### what is walked, in states of a kind -/
structure EIF (F : L2.St → Hp → Prop) (X : Cx) (M : Addr → Prop) (e : DE) (cs : Cs) (tg iter : Expr) (ds : List D) (cs' : Cs) : Prop where
  dm : dom cs' = dom cs
  k : ∃ wi, PI X tg iter wi ∧ ∀ (σ : L2.St) (H : Hp) (Q : It → Hp → Prop), F σ H → Sit X.K X.mg M σ H e cs → (∀ J H', Sit X.K X.mg M σ H' e cs' → Ext (dom cs) H H' → Walks X M J ds H' → Q J H') → wi σ H Q
section
variable {X : Cx} {M M' : Addr → Prop} {e : DE} {cs cs1 cs2 cs3 : Cs} {pos p pos' apos : Pos} {tg a b c ex o : Expr} {es : List Expr} {d x y z : D} {ds : List D} {n m : Str} {k j : Nat}
theorem lc_coreF {scope : Scope} {own : List (Str × Nat)} {iter elt : Expr} {ifs : List Expr} {ef : D → DE} {P : D → Prop} {F : L2.St → Hp → Prop} (hi : EIF F X M e cs tg iter ds cs1) (ht : CTg X scope (own.map (·.2)) e tg ef P) (hP : ∀ d ∈ ds, P d) (S mid : Nat → Cs) (keep : Nat → Bool) (out : Nat → D) (hS0 : S 0 = cs1) (hSd : ∀ i, dom (S i) = dom cs1) (hmd : ∀ i, dom (mid i) = dom cs1) (hn : ds.length ≤ 100000)
    (tt : TT) (htt : ∀ (s : Shared) (H : Hp) (C : Addr) (cl : List (Str × Addr)) (fp : List Addr), PTs (blkOf X scope s H C cl fp) ifs tt)
    (turnT : ∀ (i : Nat) (d : D), ds[i]? = some d → ∀ (M' : Addr → Prop), (∀ a, M a → M' a) → ∀ (σ : L2.St) (H : Hp) (Q : Bool → Hp → Prop), Sit X.K X.mg M' σ H (ef d) (S i) → (∀ H', Sit X.K X.mg M' σ H' (ef d) (mid i) → Ext (dom cs1) H H' → Q (keep i) H') → tt σ H Q)
    (turnE : ∀ (i : Nat) (d : D), ds[i]? = some d → keep i = true → ∀ (M' : Addr → Prop), (∀ a, M a → M' a) → ∀ (s : Shared) (H : Hp) (C : Addr) (cl : List (Str × Addr)) (fp : List Addr), EE (blkOf X scope s H C cl fp) M' (ef d) (mid i) elt (out i) (S (i + 1)))
    (turnN : ∀ (i : Nat) (d : D), ds[i]? = some d → keep i = false → S (i + 1) = mid i)
    (hc : X.calm = true) (hN : X.N.Nodup) (ok : BlkOk X.N X.env.scope scope own) (hs : ∀ x, foldedSetIterable iter X.env x = pure x) :
    ∃ t, PE X (.ListComp elt [⟨tg, iter, ifs, 0⟩] scope pos) t ∧ (∀ (σ : L2.St) (H : Hp) (Q : VK), F σ H → Sit X.K X.mg M σ H e cs → (∀ v H', Sit X.K X.mg M σ H' e (S ds.length) → Ext (dom cs) H H' → R X.K X.mg M H' v (.lst (outs keep out ds.length)) → Q v H') → t σ H Q) ∧
      ∀ (y : Str) (py spos : Pos) (i : Nat) , X.N[i]? = some y → X.env.scope.names.lookup y = some .local → swapsWith (.ListComp elt [⟨tg, iter, ifs, 0⟩] scope pos) (some (.Name y py)) spos.line X.env = pure true →
        PS X (.Assign [.Name y py] (.ListComp elt [⟨tg, iter, ifs, 0⟩] scope pos) spos) (tAsg t (gName i)) := by
  obtain ⟨dmI, wi, hpi, ki⟩ := hi
  obtain ⟨g, hg, hgk⟩ := ht.k
  let teB : TE := fun σ H Q => ∀ (s : Shared) (H0 : Hp) (C : Addr) (cl : List (Str × Addr)) (fp : List Addr), wE (blkOf X scope s H0 C cl fp) elt σ H Q
  have heB : ∀ (s : Shared) (H : Hp) (C : Addr) (cl : List (Str × Addr)) (fp : List Addr), PE (X.blk s H scope (compEnvC scope cl C X.env) fp) elt teB := fun s H C cl fp => ⟨fun pins s1 σ H1 Q I h => h s H C cl fp pins s1 I⟩
  refine ⟨_, pe_lc (own := own) (g := g) (tt := tt) (te := teB) hc hN hpi ok hg htt heB hs, fun σ H0 Q hF St k => ?_, fun y py spos i h1 h2 h3 => ps_setLc hc hN h1 h2 h3 hpi ok hg htt heB hs⟩
  refine ki σ H0 _ hF St fun J H1 S1 x1 wk Dl hD => ?_
  let M' : Addr → Prop := fun a => M a ∨ a = Dl
  have hM : ∀ a, M a → M' a := fun a h => .inl h
  have hDo : Dl ∉ dom cs1 := fun z => by
    obtain ⟨q, hq, rfl⟩ := List.mem_map.mp z
    exact (S1.cel q hq).2.ne hD
  let Pv : Nat → Hp → Prop := fun i H => ∃ acc, H Dl = some (.lst acc) ∧ Rs X.K X.mg M' H acc (outs keep out i) ∧ Sit X.K X.mg M' (L2.wipe σ (own.map (·.2))) H (wipeD e (own.map (·.2))) (S i) ∧ Ext (dom cs1) H1 H
  have wk' : ∀ i H, Pv i H → (∀ (i : Nat) (d : D), ds[i]? = some d → J.go i H ∧ ∀ x H3, J.yld i H x H3 → Ext [] H H3 ∧ R X.K X.mg M' H3 x d) ∧ J.stop ds.length H := fun i H p => by
    obtain ⟨acc, h1, h2, h3, h4⟩ := p
    refine wk M' H (fun a o nm h => ?_) h3.mt
    have hd : a ∉ dom cs1 := fun z => by
      obtain ⟨q, hq, rfl⟩ := List.mem_map.mp z
      exact nm (S1.cel q hq).1
    exact ⟨fun z => z.elim nm fun z => ne_of_none h hD z, h4 a o h hd⟩
  refine ⟨fun i m H => m = ds.length - i ∧ i ≤ ds.length ∧ Pv i H, ⟨ds.length, by simp, Nat.zero_le _, [], upd_same, Rs.nil, ?_, Ext.new hD⟩, ?_⟩
  · rw [hS0]; exact (S1.mark hD).wipe _
  rintro i mm H ⟨rfl, hil, pv⟩
  obtain ⟨w1, w2⟩ := wk' i H pv
  obtain ⟨acc, h1, h2, h3, h4⟩ := pv
  by_cases hlt : i < ds.length
  · obtain ⟨d, hd⟩ : ∃ d, ds[i]? = some d := ⟨_, List.getElem?_eq_getElem hlt⟩
    obtain ⟨g1, g2⟩ := w1 i d hd
    refine .inr ⟨g1, Pv (i + 1), fun H' p' => ⟨ds.length - (i + 1), by omega, rfl, hlt, p'⟩, fun x H3 y => ?_⟩
    obtain ⟨x3, r3⟩ := g2 x H3 y
    have S3 := h3.ex x3
    refine hgk M' (S i) σ H3 x d _ (hP d (List.mem_of_getElem? hd)) S3 r3 fun σ' hσ S4 => ⟨hσ, turnT i d hd M' hM σ' H3 _ S4 fun H4 S5 x5 => ?_⟩
    have hacc3 : H3 Dl = some (.lst acc) := x3 Dl _ h1 (by simp)
    have hacc4 : H4 Dl = some (.lst acc) := x5 Dl _ hacc3 hDo
    have h24 : Rs X.K X.mg M' H4 acc (outs keep out i) := by
      have q := Rs.ext (M' := M') (fun a o _ h => x3 a o h (by simp)) (fun _ n _ => n) _ h2
      exact S4.rs (by rw [hSd i]; exact x5) q
    have x4 : Ext (dom cs1) H1 H4 := (h4.trans (x3.mono (by simp))).trans x5
    have Sw : Sit X.K X.mg M' (L2.wipe σ (own.map (·.2))) H4 (wipeD e (own.map (·.2))) (mid i) := by
      exact S3.step (by rw [hmd i, hSd i]) (by rw [hSd i]; exact x5) S5.mt S5.cel
    cases hk : keep i with
    | true =>
      rw [if_pos rfl]
      intro s0 H0' C cl fp
      refine (turnE i d hd hk M' hM s0 H0' C cl fp).k σ' H4 _ S5 fun v H5 S6 x6 r6 => ?_
      rw [hmd i] at x6
      have hacc5 : H5 Dl = some (.lst acc) := x6 Dl _ hacc4 hDo
      have hl : acc.length ≤ i := by rw [h24.length]; exact outs_len
      have h25 : Rs X.K X.mg M' H5 acc (outs keep out i) := S5.rs (by rw [hmd i]; exact x6) h24
      have Sw5 : Sit X.K X.mg M' (L2.wipe σ (own.map (·.2))) H5 (wipeD e (own.map (·.2))) (S (i + 1)) := Sw.step (by rw [hmd i, hSd (i + 1)]) (by rw [hmd i]; exact x6) S6.mt S6.cel
      refine ⟨acc, hacc5, Nat.lt_of_le_of_lt hl (Nat.lt_of_lt_of_le hlt (Nat.le_trans hn (by decide))), acc ++ [v], upd_same, ?_, Sw5.upd (.inr rfl) (by rw [hSd]; exact hDo), fun a o h n => ?_⟩
      · rw [outs_yes hk]
        exact Rs.ext (M' := M') (fun a o nm h => by rw [upd_ne (fun z => nm (.inr z))]; exact h) (fun _ n _ => n) _ (h25.append (.cons r6 .nil))
      · rw [upd_ne (ne_of_none h hD)]
        exact x6 a o (x4 a o h n) n
    | false =>
      rw [if_neg (by simp)]
      refine ⟨acc, hacc4, by rw [outs_no hk]; exact h24, ?_, x4⟩
      rw [turnN i d hd hk]; exact Sw
  · have e0 : i = ds.length := by omega
    subst e0
    refine .inl ⟨w2, k _ H ?_ (x1.trans (by rw [← dmI]; exact h4)) ?_⟩
    · exact S1.step (hSd _) h4 (fun a m => h3.mt a (.inl m)) fun q hq => ⟨(by
        have hq' : q.1 ∈ dom cs1 := by rw [← hSd ds.length]; exact List.mem_map_of_mem (f := (·.1)) hq
        obtain ⟨q0, h0, e0⟩ := List.mem_map.mp hq'
        have := (S1.cel q0 h0).1
        rwa [e0] at this), (h3.cel q hq).2.ext (fun a o _ h => h) (fun a n _ z => n (.inl z)) fun o h => h⟩
    · unfold R
      exact ⟨Dl, acc, rfl, new_m S1.mt hD, h1, Rs.ext (fun a o _ h => h) (fun a n _ z => n (.inl z)) _ h2⟩

/-- the slot j holds the locked dict a -/
def FrzAt (j : Nat) (ad : Addr) (kvs : List (Key × V)) : L2.St → Hp → Prop := fun σ H => σ[j]? = some (some (.ref ad)) ∧ ∃ ob, H ad = some (.frz ob (.dK kvs))
theorem ei_keys {ad : Addr} {kvs : List (Key × V)} (j : Nat) (nm : ¬ M ad) (hN : X.N[j]? = some n) (hv : Vis X.env.scope n) (h1 : (n == ("__debug__" : Str)) = false) (h2 : (n == ("__classdict__" : Str)) = false) : EIF (FrzAt j ad kvs) X M e cs tg (.Name n p) ((kvs.map (·.1)).map keyD) cs where
  dm := rfl
  k := ⟨_, pi_keys (pe_var hN hv h1 h2), fun σ H Q hF S k => by
    obtain ⟨hs, ob, hfz⟩ := hF
    refine ⟨.ref ad, hs, ad, ob, rfl, .inl ⟨kvs, hfz, k _ H S (Ext.refl _ _) fun M2 H2 kp mt => ?_⟩⟩
    have h2 := (kp ad _ nm hfz).2
    refine ⟨fun i d hd => ?_, h2, by simp⟩
    simp only [List.map_map] at hd
    rw [List.getElem?_map] at hd
    cases hk : kvs[i]? with
    | none => rw [hk] at hd; cases hd
    | some kv =>
      rw [hk] at hd
      have hd' : keyD kv.1 = d := Option.some.inj hd
      have hlt : i < kvs.length := by
        cases Nat.lt_or_ge i kvs.length with
        | inl z => exact z
        | inr z => rw [List.getElem?_eq_none z] at hk; cases hk
      refine ⟨⟨h2, hlt⟩, fun x H3 y => ?_⟩
      obtain ⟨rfl, k', v', hk', rfl⟩ := y
      rw [hk] at hk'
      cases hk'
      exact ⟨Ext.refl _ _, hd' ▸ r_key _⟩⟩
/-- [elt for k in d] -/
theorem e_lcD {α : Type} {ks : List Key} {scope : Scope} (own : List (Str × Nat)) {elt : Expr} {ef : D → DE} {P : D → Prop} (j : Nat) (hj : e[j]? = some (some (.dic ks ds))) (xs : List α) (g : α → Key) (f : α → D) (hks : ks = xs.map g) (ht : CTg X scope (own.map (·.2)) e tg ef P) (hP : ∀ x ∈ xs, P (keyD (g x))) (hn : xs.length ≤ 100000)
    (turn : ∀ x ∈ xs, ∀ (M' : Addr → Prop), (∀ a, M a → M' a) → ∀ (s : Shared) (H : Hp) (C : Addr) (cl : List (Str × Addr)) (fp : List Addr), EE (blkOf X scope s H C cl fp) M' (ef (keyD (g x))) cs elt (f x) cs)
    (ok : BlkOk X.N X.env.scope scope own) (hN : X.N.Nodup) (hjN : X.N[j]? = some n := by rfl) (hv : Vis X.env.scope n := by first | exact Or.inl rfl | exact Or.inr (Or.inl rfl) | exact Or.inr (Or.inr rfl)) (h1 : (n == ("__debug__" : Str)) = false := by decide) (h2 : (n == ("__classdict__" : Str)) = false := by decide)
    (hc : X.calm = true := by rfl) (hs : ∀ x, foldedSetIterable (.Name n p) X.env x = pure x := by intro _; rfl) :
    EE X M e cs (.ListComp elt [⟨tg, .Name n p, [], 0⟩] scope pos) (.lst (xs.map f)) cs where
  dm := rfl
  k := fun σ H Q S k => by
    obtain ⟨v, hsv, r⟩ := S.env j _ hj
    unfold R at r
    obtain ⟨ad, vs, rfl, nm, hrd, hlen, rs⟩ := r
    have nd : ad ∉ dom cs := fun z => by
      obtain ⟨q, hq, rfl⟩ := List.mem_map.mp z
      exact nm (S.cel q hq).1
    have hmap : ((ks.zip vs).map (·.1)).map keyD = xs.map fun x => keyD (g x) := by
      rw [List.map_fst_zip (by omega), hks, List.map_map]; rfl
    have at_ : ∀ (i : Nat) (d : D), (xs.map fun x => keyD (g x))[i]? = some d → ∃ x, xs[i]? = some x ∧ x ∈ xs ∧ d = keyD (g x) := fun i d h => by
      rw [List.getElem?_map] at h
      cases q : xs[i]? with
      | none => rw [q] at h; cases h
      | some x => rw [q] at h; exact ⟨x, rfl, List.mem_of_getElem? q, (Option.some.inj h).symm⟩
    have hi : EIF (FrzAt j ad (ks.zip vs)) X M e cs tg (.Name n p) (xs.map fun x => keyD (g x)) cs := hmap ▸ ei_keys j nm hjN hv h1 h2
    obtain ⟨t, t1, t2, _⟩ := lc_coreF (pos := pos) (elt := elt) (ifs := []) hi ht (fun d hd => by
      obtain ⟨x, hx, rfl⟩ := List.mem_map.mp hd
      exact hP x hx) (fun _ => cs) (fun _ => cs) (fun _ => true) (fun i => ((xs[i]?).map f).getD .non) rfl (fun _ => rfl) (fun _ => rfl) (by rw [List.length_map]; exact hn) tYes (fun _ _ _ _ _ => pts_nil) (fun i d hd M' hM σ H Q S k => k H S (Ext.refl _ _))
      (fun i d hd _ M' hM s H C cl fp => by
        obtain ⟨x, hx1, hx2, rfl⟩ := at_ i d hd
        rw [hx1]
        exact turn x hx2 M' hM s H C cl fp) (fun i d hd h => by cases h) hc hN ok hs
    have ho : outs (fun _ => true) (fun i => ((xs[i]?).map f).getD .non) (xs.map fun x => keyD (g x)).length = xs.map f := by
      rw [List.length_map]; exact outs_mapM xs f
    rcases hrd with hrd | ⟨ob, hrd⟩
    · refine we_of (pe_lock t1) ⟨ad, _, hrd, trivial, fun od => ?_⟩
      refine t2 σ _ _ ⟨hsv, od, upd_same⟩ (S.swp (lock_swp hrd) nm) fun v H' S' x' r' => ?_
      have hfz : H' ad = some (.frz od (.dK (ks.zip vs))) := x' ad _ upd_same nd
      refine ⟨hfz, k v _ (S'.swp (unlock_swp hfz) nm) (ext_lock hrd nd x') ?_⟩
      rw [ho] at r'
      exact R.swp (unlock_swp hfz) _ r'
    · refine we_of t1 (t2 σ H _ ⟨hsv, ob, hrd⟩ S fun v H' S' x' r' => k v H' S' x' ?_)
      rw [ho] at r'
      exact r'
end
end Od

set_option Elab.async false
set_option linter.all false
set_option maxRecDepth 100000
set_option maxHeartbeats 4000000
/-! Od26: for over a dict; dicts that grow; dict(pairs); sorted(dict). -/
namespace Od
open PySem L2
/-- d[k] = x, in terms of data -/
def putD : List Key → List D → Key → D → List Key × List D
  | k :: ks, d :: ds, x, y => if k = x then (k :: ks, y :: ds) else (k :: (putD ks ds x y).1, d :: (putD ks ds x y).2)
  | ks, ds, x, y => (ks ++ [x], ds ++ [y])
section
variable {X : Cx} {M : Addr → Prop} {e : DE} {cs cs1 cs2 cs3 : Cs} {fr : Frs} {D0 : Ends} {pos p pos' apos : Pos} {tg a b c ex o : Expr} {es : List Expr} {rest : List Stmt} {d x y z : D} {ds ds' es' : List D} {n m : Str} {k j : Nat} {ks ks' : List Key}
/-- for k in d: .. (no return, no break) -/
theorem at_forD {body : List Stmt} {ef : DE → D → DE} {Pd : D → Prop} {α : Nat → Type} (P : (i : Nat) → α i → Prop) (E : (i : Nat) → α i → DE) (C : (i : Nat) → α i → Cs) (j : Nat) (hj : e[j]? = some (some (.dic ks ds))) (ht : LTg X tg ef Pd) (hP : ∀ k ∈ ks, Pd (keyD k)) (g0 : α 0) (p0 : P 0 g0) (e0 : E 0 g0 = e) (c0 : C 0 g0 = cs)
    (hdm : ∀ i g, P i g → dom (C i g) = dom cs)
    (turn : ∀ (i : Nat) (k : Key) (g : α i) (H1 : Hp) (rt : VK) (bk : L2.St → Hp → Prop), ks[i]? = some k → P i g → At X M (ef (E i g) (keyD k)) (C i g) [(dom cs, H1)] (wSs X body { nx := Inv' X M [(dom cs, H1)] (P (i + 1)) (E (i + 1)) (C (i + 1)), ct := Inv' X M [(dom cs, H1)] (P (i + 1)) (E (i + 1)) (C (i + 1)), rt := rt, bk := bk }))
    (k : ∀ g, P ks.length g → At X M (E ks.length g) (C ks.length g) fr (wSs X rest D0))
    (hjN : X.N[j]? = some n := by rfl) (hv : Vis X.env.scope n := by first | exact Or.inl rfl | exact Or.inr (Or.inl rfl) | exact Or.inr (Or.inr rfl)) (h1 : (n == ("__debug__" : Str)) = false := by decide) (h2 : (n == ("__classdict__" : Str)) = false := by decide)
    (hc : X.calm = true := by rfl) (hp : PassesOwn (model X.prog X.w) X.A X.env X.xe := by first | exact PassesOwn.never | exact passes_of rfl) (hs : ∀ x, foldedSetIterable (.Name n p) X.env x = pure x := by intro _; rfl) :
    At X M e cs fr (wSs X (.For tg (.Name n p) body [] pos :: rest) D0) := fun σ H S x l => by
  obtain ⟨v, hsv, r⟩ := S.env j _ hj
  unfold R at r
  obtain ⟨ad, vs, rfl, nm, hrd, hlen, rs⟩ := r
  have nd : ad ∉ dom cs := fun z => by
    obtain ⟨q, hq, rfl⟩ := List.mem_map.mp z
    exact nm (S.cel q hq).1
  obtain ⟨g, hg, hgk⟩ := ht.k
  have hmap : ((ks.zip vs).map (·.1)).map keyD = ks.map keyD := by rw [List.map_fst_zip (by omega)]
  obtain ⟨_, wi, hpi, ki⟩ : EIF (FrzAt j ad (ks.zip vs)) X M e cs tg (.Name n p) (ks.map keyD) cs := hmap ▸ ei_keys j nm hjN hv h1 h2
  -- the loop in a locked state
  have core : ∀ (D1 : Ends) (H0 : Hp), FrzAt j ad (ks.zip vs) σ H0 → Sit X.K X.mg M σ H0 e cs → (∀ g σ' H', P ks.length g → Sit X.K X.mg M σ' H' (E ks.length g) (C ks.length g) → Ext (dom cs) H0 H' → D1.nx σ' H') → tFor wi g (fun D σ H => wSs X body D σ H) D1 σ H0 := fun D1 H0 hF S0 kk => by
    refine ki σ H0 _ hF S0 fun J H1 S1 x1 wk => ?_
    have ly : Lo [(dom cs, H1)] cs := fun f hf a ha => by
      rcases List.mem_singleton.mp hf with rfl
      exact .inl ha
    refine ⟨fun i m σ H => m = ks.length - i ∧ i ≤ ks.length ∧ Inv' X M [(dom cs, H1)] (P i) (E i) (C i) σ H, ⟨ks.length, by simp, Nat.zero_le _, g0, p0, by rw [e0, c0]; exact S1, fun f hf => ?_⟩, ?_⟩
    · rcases List.mem_singleton.mp hf with rfl
      exact Ext.refl _ _
    rintro i m σ2 H2 ⟨rfl, hil, gi, pg, S2, x2⟩
    have x3 : Ext (dom cs) H1 H2 := x2 _ List.mem_cons_self
    obtain ⟨w1, w2⟩ := wk M H2 (fun a o nm h => ⟨nm, S1.keeps x3 a o nm h⟩) S2.mt
    have ly2 := lo_of ly (hdm _ _ pg)
    by_cases hlt : i < ks.length
    · obtain ⟨q, hq⟩ : ∃ q, ks[i]? = some q := ⟨_, List.getElem?_eq_getElem hlt⟩
      have hd : (ks.map keyD)[i]? = some (keyD q) := by rw [List.getElem?_map, hq]; rfl
      obtain ⟨q1, q2⟩ := w1 i _ hd
      refine .inr ⟨q1, Inv' X M [(dom cs, H1)] (P (i + 1)) (E (i + 1)) (C (i + 1)), fun σ' H' p' => ⟨ks.length - (i + 1), by omega, rfl, hlt, p'⟩, fun x H3 y => ?_⟩
      obtain ⟨x4, r4⟩ := q2 x H3 y
      have S3 := S2.ex x4
      exact hgk M _ _ σ2 H3 x _ _ (hP q (List.mem_of_getElem? hq)) S3 r4 fun σ' S4 => turn i q gi H1 _ _ hq pg σ' H3 S4 (ext_on x2 ly2 (x4.mono (by simp))) ly2
    · have e9 : i = ks.length := by omega
      subst e9
      refine .inl ⟨by rw [List.length_map] at w2; exact w2, kk gi σ2 H2 pg S2 (x1.trans x3)⟩
  rcases hrd with hrd | ⟨ob, hrd⟩
  · refine wss_of (pss_cons (ps_lock (ps_for hp hc hpi hg pss_w hs)) pss_w) ⟨ad, _, hrd, trivial, fun od => ?_⟩
    refine core _ _ ⟨hsv, od, upd_same⟩ (S.swp (lock_swp hrd) nm) fun g σ' H' pg S' x' => ?_
    have hfz : H' ad = some (.frz od (.dK (ks.zip vs))) := x' ad _ upd_same nd
    exact ⟨hfz, k g pg σ' _ (S'.swp (unlock_swp hfz) nm) (ext_on x l (ext_lock hrd nd x')) (lo_of l (hdm _ _ pg))⟩
  · refine wss_of (pss_cons (ps_for hp hc hpi hg pss_w hs) pss_w) ?_
    exact core _ _ ⟨hsv, ob, hrd⟩ S fun g σ' H' pg S' x' => k g pg σ' H' S' (ext_on x l x') (lo_of l (hdm _ _ pg))
/-! ### a dict that grows -/
theorem valV_none {q : Key} : ∀ {ks : List Key} {vs : List V}, q ∉ ks → valV (ks.zip vs) q = none
  | [], _, _ => rfl
  | _ :: _, [], _ => rfl
  | k :: ks, v :: vs, h => by
    have h1 : ¬ (k = q) := fun z => h (z ▸ List.mem_cons_self ..)
    show valV ((k, v) :: ks.zip vs) q = none
    rw [valV_neg (p := (k, v)) h1]
    exact valV_none fun z => h (List.mem_cons_of_mem _ z)
theorem cell_dic {σ : L2.St} {H : Hp} {ad : Addr} (S : Sit X.K X.mg M σ H e cs) (hin : (ad, MC.dic ks ds) ∈ cs) : M ad ∧ ∃ xs, H ad = some (.dK (ks.zip xs)) ∧ ks.length = xs.length ∧ Rs X.K X.mg M H xs ds := S.cel _ hin
/-- name = {} -/
theorem at_setD0 (i : Nat) (kk : ∀ q, ¬ M q → At X (fun b => M b ∨ b = q) (e.set i (some (.ref q))) ((q, .dic [] []) :: cs) fr (wSs X rest D0)) (hN : X.N.Nodup) (hi : X.N[i]? = some n := by rfl) (hx : Loc X.env.scope n := by first | exact .inl rfl | exact .inr rfl)
    (hs : swapsWith (.Dict [] [] pos) (some (.Name n pos')) p.line X.env = pure false := by rfl) (hf : X.fn n = true ∨ X.env.scope.names.lookup n = some .local := by first | exact .inl rfl | exact .inr rfl) : At X M e cs fr (wSs X (.Assign [.Name n pos'] (.Dict [] [] pos) p :: rest) D0) := fun σ H S xx l =>
  wss_of (pss_cons (ps_set hN hi hx pe_dnewK hs hf) pss_w) fun q hq => by
    have S2 := S.mark (p := q) (o := .dK []) hq
    have S3 : Sit X.K X.mg (fun b => M b ∨ b = q) σ (upd H q (.dK [])) e ((q, .dic [] []) :: cs) := by
      refine ⟨S2.mt, S2.len, S2.env, fun c hc => ?_, ?_⟩
      · rcases List.mem_cons.mp hc with rfl | hc
        · exact ⟨.inr rfl, [], upd_same, rfl, .nil⟩
        · exact S2.cel c hc
      · show (q :: cs.map (·.1)).Nodup
        refine List.nodup_cons.mpr ⟨fun z => ?_, S.nd⟩
        obtain ⟨c, hc, e⟩ := List.mem_map.mp z
        exact (S.cel c hc).2.ne (e ▸ hq)
    refine kk q (new_m S.mt hq) _ _ (S3.set i (by simp [R])) (ext_on xx l (Ext.new hq)) ?_
    intro f0 hf0 b hb
    rcases List.mem_cons.mp hb with rfl | hb
    · by_cases h : b ∈ f0.1
      · exact .inl h
      · right
        cases h2 : f0.2 b with
        | none => rfl
        | some o =>
          have := xx f0 hf0 b o h2 h
          rw [hq] at this; cases this
    · exact l f0 hf0 b hb
/-- d[s] = x, a new key -/
theorem at_dputN {ad : Addr} {s : Str} {pt : Pos} (hv : EE X M e cs ex d cs1) (ha : EE X M e cs1 a (.ref ad) cs1) (hb : EE X M e cs1 b (.str s) cs1) (hu1 : Upd1 ad (.dic ks ds) (.dic (ks ++ [Sum.inr s]) (ds ++ [d])) cs1 cs2) (hn : (Sum.inr s : Key) ∉ ks) (hl : ks.length < 100000) (hu : X.A.units + 1 < cLine)
    (k : At X M e cs2 fr (wSs X rest D0)) (hs : swapsWith ex (some (.Subscript a b pt)) pos.line X.env = pure false := by rfl) : At X M e cs fr (wSs X (.Assign [.Subscript a b pt] ex pos :: rest) D0) := fun σ H S x l =>
  wss_of (pss_cons (ps_dput hu pe_w pe_w pe_w hs) pss_w) (hv.k σ H _ S fun v H1 S1 x1 r1 => ha.k σ H1 _ S1 fun w H2 S2 x2 r2 => hb.k σ H2 _ S2 fun u H3 S3 x3 r3 => by
    simp only [R] at r2 r3
    subst r2 r3
    obtain ⟨mm, xs, h3, hlen, rs⟩ := cell_dic S3 hu1.mem
    have r1' := S2.r x3 (S1.r x2 r1)
    have hput : putK (ks.zip xs) (Sum.inr s : Key) v = (ks ++ [Sum.inr s]).zip (xs ++ [v]) := by
      rw [putK_new v (valV_none hn), List.zip_append hlen]; rfl
    refine ⟨ad, upd H3 ad (.dK ((ks ++ [Sum.inr s]).zip (xs ++ [v]))), rfl, ?_, ?_⟩
    · rw [← hput]
      exact DPut.k (k := (Sum.inr s : Key)) h3 (by rw [List.length_zip]; exact Nat.lt_of_lt_of_le (by omega : min ks.length xs.length < 100000) (by decide))
    have hnm : ∀ b o, ¬ M b → H3 b = some o → upd H3 ad (.dK ((ks ++ [Sum.inr s]).zip (xs ++ [v]))) b = some o := fun b o nb h => by rw [upd_ne (fun z => nb (by rw [z]; exact mm))]; exact h
    refine k σ _ (sit_put S3 hu1 ⟨_, upd_same, by simp [hlen], Rs.ext hnm (fun _ n _ => n) _ (rs.append (.cons r1' .nil))⟩) ?_ (lo_of l (hu1.dm.trans hv.dm))
    have l1 : Lo fr cs1 := lo_of l hv.dm
    exact ext_on (ext_on (ext_on (ext_on x l x1) l1 x2) l1 x3) l1 (ext_put hu1.dom))
/-- s in d, s not in d; d may change -/
theorem t_dinc {ad : Addr} {s : Str} (hb : EE X M e cs b (.str s) cs) (ha : EE X M e cs a (.ref ad) cs) (hin : (ad, MC.dic ks ds) ∈ cs) (hu : X.A.units + 1 < cLine) (hm : behindInMarks CmpOp.In a = false := by rfl) : ET X M e cs (.Compare b [.In] [a] pos) (dvl ks ds (Sum.inr s)).isSome cs where
  dm := rfl
  k := fun σ H Q S k => wt_of (pt_cmp (pc_din hu pe_w pe_w) hm) (hb.k σ H _ S fun v2 H1 S1 x1 r2 => ha.k σ H1 _ S1 fun v H2 S2 x2 r1 => by
    simp only [R] at r2 r1
    subst r2 r1
    obtain ⟨mm, xs, h3, hlen, rs⟩ := cell_dic S2 hin
    refine ⟨ad, _, rfl, DGet.k (k := (Sum.inr s : Key)) h3, _, rfl, ?_⟩
    have : (valV (ks.zip xs) (Sum.inr s : Key)).isSome = (dvl ks ds (Sum.inr s)).isSome := by
      rcases dvl_rel (k := (Sum.inr s : Key)) hlen rs with ⟨e1, e2⟩ | ⟨v, d, e1, e2, r⟩
      · rw [e1, e2]; rfl
      · rw [e1, e2]; rfl
    rw [this]
    exact k H2 S2 (x1.trans x2))
theorem t_dninc {ad : Addr} {s : Str} (hb : EE X M e cs b (.str s) cs) (ha : EE X M e cs a (.ref ad) cs) (hin : (ad, MC.dic ks ds) ∈ cs) (hu : X.A.units + 1 < cLine) (hm : behindInMarks CmpOp.NotIn a = false := by rfl) : ET X M e cs (.Compare b [.NotIn] [a] pos) (!(dvl ks ds (Sum.inr s)).isSome) cs where
  dm := rfl
  k := fun σ H Q S k => wt_of (pt_cmp (pc_dnotin hu pe_w pe_w) hm) (hb.k σ H _ S fun v2 H1 S1 x1 r2 => ha.k σ H1 _ S1 fun v H2 S2 x2 r1 => by
    simp only [R] at r2 r1
    subst r2 r1
    obtain ⟨mm, xs, h3, hlen, rs⟩ := cell_dic S2 hin
    refine ⟨ad, _, rfl, DGet.k (k := (Sum.inr s : Key)) h3, _, rfl, ?_⟩
    have : (valV (ks.zip xs) (Sum.inr s : Key)).isSome = (dvl ks ds (Sum.inr s)).isSome := by
      rcases dvl_rel (k := (Sum.inr s : Key)) hlen rs with ⟨e1, e2⟩ | ⟨v, d, e1, e2, r⟩
      · rw [e1, e2]; rfl
      · rw [e1, e2]; rfl
    rw [this]
    exact k H2 S2 (x1.trans x2))
/-- s not in d, d as a value -/
theorem t_dnin {s : Str} (hb : EE X M e cs b (.str s) cs1) (ha : EE X M e cs1 a (.dic ks ds) cs2) (hu : X.A.units + 1 < cLine) (hm : behindInMarks CmpOp.NotIn a = false := by rfl) : ET X M e cs (.Compare b [.NotIn] [a] pos) (!(dvl ks ds (Sum.inr s)).isSome) cs2 where
  dm := ha.dm.trans hb.dm
  k := fun σ H Q S k => wt_of (pt_cmp (pc_dnotin hu pe_w pe_w) hm) (hb.k σ H _ S fun v2 H1 S1 x1 r2 => ha.k σ H1 _ S1 fun v H2 S2 x2 r1 => by
    unfold R at r1
    obtain ⟨ad, xs, rfl, nm, h1, hl, rs⟩ := r1
    simp only [R] at r2
    subst r2
    refine ⟨ad, _, rfl, dget_rd (k := (Sum.inr s : Key)) h1, _, rfl, ?_⟩
    have : (valV (ks.zip xs) (Sum.inr s : Key)).isSome = (dvl ks ds (Sum.inr s)).isSome := by
      rcases dvl_rel (k := (Sum.inr s : Key)) hl rs with ⟨e1, e2⟩ | ⟨v, d, e1, e2, r⟩
      · rw [e1, e2]; rfl
      · rw [e1, e2]; rfl
    rw [this]
    exact k H2 S2 (x1.trans (by rw [← hb.dm]; exact x2)))
/-! ### what may change becomes a value -/
def MC.val : MC → D
  | .lst ds => .lst ds
  | .dic ks ds => .dic ks ds
  | .obj c ns ds => .obj c ns ds
  | .tab _ => .non
def MC.isTab : MC → Bool
  | .tab _ => true
  | _ => false
theorem at_pure {q : Addr} {mc : MC} {P : L2.St → Hp → Prop} (i : Nat) (hi : e[i]? = some (some (.ref q))) (nq : ¬ M q) (h : At X M (e.set i (some mc.val)) cs fr P) (ht : mc.isTab = false := by rfl) : At X (fun b => M b ∨ b = q) e ((q, mc) :: cs) fr P := fun σ H S x l => by
  have un : ∀ b, ¬ (M b ∨ b = q) → H b ≠ none → ¬ M b := fun b n _ z => n (.inl z)
  have nd := (List.nodup_cons.mp (show (q :: cs.map (·.1)).Nodup from S.nd))
  have hilt : i < e.length := by
    cases Nat.lt_or_ge i e.length with
    | inl z => exact z
    | inr z => rw [List.getElem?_eq_none z] at hi; cases hi
  refine h σ H ⟨fun a m => S.mt a (.inl m), by rw [List.length_set]; exact S.len, fun j d hj => ?_, fun p hp => ?_, nd.2⟩ x fun f0 hf0 b hb => l f0 hf0 b (List.mem_cons_of_mem _ hb)
  · by_cases hij : i = j
    · subst hij
      rw [List.getElem?_set_self hilt] at hj
      cases hj
      obtain ⟨v, e1, r⟩ := S.env i _ hi
      simp only [R] at r
      subst r
      refine ⟨_, e1, ?_⟩
      have hc := (S.cel _ (List.mem_cons_self ..)).2
      cases mc with
      | tab _ => cases ht
      | lst ds =>
        obtain ⟨xs, hq, rs⟩ := hc
        show R X.K X.mg M H (.ref q) (.lst ds)
        unfold R
        exact ⟨q, xs, rfl, nq, hq, Rs.ext (fun _ _ _ h => h) un _ rs⟩
      | dic ks ds =>
        obtain ⟨xs, hq, hl, rs⟩ := hc
        show R X.K X.mg M H (.ref q) (.dic ks ds)
        unfold R
        exact ⟨q, xs, rfl, nq, .inl hq, hl, Rs.ext (fun _ _ _ h => h) un _ rs⟩
      | obj c ns ds =>
        obtain ⟨C, dx, xs, g, hq, hl, rs⟩ := hc
        show R X.K X.mg M H (.ref q) (.obj c ns ds)
        unfold R
        exact ⟨q, C, dx, xs, rfl, nq, g, hq, hl, Rs.ext (fun _ _ _ h => h) un _ rs⟩
    · rw [List.getElem?_set_ne hij] at hj
      obtain ⟨v, e1, r⟩ := S.env j d hj
      exact ⟨v, e1, R.ext (fun _ _ _ h => h) un d r⟩
  · obtain ⟨m, c⟩ := S.cel p (List.mem_cons_of_mem _ hp)
    have ne : p.1 ≠ q := fun z => nd.1 (z ▸ List.mem_map_of_mem (f := (·.1)) hp)
    exact ⟨m.resolve_right ne, c.ext (fun _ _ _ h => h) un fun _ h => h⟩
/-- a mark that is not needed any more -/
theorem at_unmark {q : Addr} {mc : MC} {P : L2.St → Hp → Prop} (h : At X M e cs fr P) : At X (fun b => M b ∨ b = q) e ((q, mc) :: cs) fr P := fun σ H S x l => by
  have un : ∀ b, ¬ (M b ∨ b = q) → H b ≠ none → ¬ M b := fun b n _ z => n (.inl z)
  have nd := (List.nodup_cons.mp (show (q :: cs.map (·.1)).Nodup from S.nd))
  refine h σ H ⟨fun a m => S.mt a (.inl m), S.len, fun j d hj => ?_, fun p hp => ?_, nd.2⟩ x fun f0 hf0 b hb => l f0 hf0 b (List.mem_cons_of_mem _ hb)
  · obtain ⟨v, e1, r⟩ := S.env j d hj
    exact ⟨v, e1, R.ext (fun _ _ _ h => h) un d r⟩
  · obtain ⟨m, c⟩ := S.cel p (List.mem_cons_of_mem _ hp)
    have ne : p.1 ≠ q := fun z => nd.1 (z ▸ List.mem_map_of_mem (f := (·.1)) hp)
    exact ⟨m.resolve_right ne, c.ext (fun _ _ _ h => h) un fun _ h => h⟩
/-! ### dict(pairs), sorted(dict) -/
def kpairs : List Key → List D → List D
  | k :: ks, d :: ds => .tup [keyD k, d] :: kpairs ks ds
  | _, _ => []
theorem r_keyI {H : Hp} {v : V} {q : Key} (r : R X.K X.mg M H v (keyD q)) : v = kV q := by
  cases q <;> simpa [keyD, kV, R] using r
theorem pairs_rel {H : Hp} : ∀ {ks : List Key} {ds : List D} {vs : List V}, ks.length = ds.length → Rs X.K X.mg M H vs (kpairs ks ds) →
    ∃ (ps : List Addr) (us : List V), vs = ps.map V.ref ∧ ks.length = us.length ∧ Paired (fun p kv => SqT X.K H p [kV kv.1, kv.2]) ps (ks.zip us) ∧ Rs X.K X.mg M H us ds
  | [], [], vs, _, r => by
    cases vs with
    | nil => exact ⟨[], [], rfl, rfl, .nil, .nil⟩
    | cons => unfold kpairs Rs at r; exact r.elim
  | q :: ks, d :: ds, vs, hl, r => by
    cases vs with
    | nil => unfold kpairs Rs at r; exact r.elim
    | cons v vs =>
      unfold kpairs Rs at r
      obtain ⟨r1, r2⟩ := r
      obtain ⟨ps, us, e1, e2, e3, e4⟩ := pairs_rel (by simpa using hl) r2
      obtain ⟨ad, ys, rfl, hq, hys⟩ := r_tup r1
      obtain ⟨y1, y2, rfl, g1, g2⟩ := rs2 hys
      obtain rfl := r_keyI g1
      exact ⟨ad :: ps, y2 :: us, by rw [e1]; rfl, by simp [e2], .cons hq e3, .cons g2 e4⟩
  | [], _ :: _, _, hl, _ => by simp at hl
  | _ :: _, [], _, hl, _ => by simp at hl
theorem kd_dictP {xs : List D} (hx : xs = kpairs ks ds) (hl : ks.length = ds.length) (hn : ks.Nodup) (hc : X.calm = true := by rfl) : CalD X (.type "dict") [.lst xs] (.dic ks ds) := ⟨_, call_dictP hc, fun M H vs Q mt hv k => by
  obtain ⟨v, rfl, hw⟩ := rs1 hv
  obtain ⟨a, ws, rfl, nm, ha, ra⟩ := r_lst hw
  subst hx
  obtain ⟨ps, us, rfl, e2, e3, e4⟩ := pairs_rel hl ra
  refine ⟨a, ps, ks.zip us, rfl, .of ha, e3, fun p hp => ?_⟩
  have hm : mergeK [] (ks.zip us) = ks.zip us := by
    rw [mergeK_new (ks.zip us) [] (by rw [List.nil_append, List.map_fst_zip (by omega)]; exact hn)]; rfl
  rw [hm]
  refine k _ _ (Ext.new hp) ?_
  unfold R
  exact ⟨p, us, rfl, new_m mt hp, .inl upd_same, e2, Rs.ext (fun a o _ h => by rw [upd_ne (ne_of_none h hp)]; exact h) (fun _ n _ => n) _ e4⟩⟩
theorem kd_sortedD {ss ts : List Str} (hk : ks = ss.map Sum.inr) (hl : ss.length < 64) (h : ∀ ys : List Str, ys.Perm ss → PyProof.Rows.sortedS ys = true → ys = ts) (hc : X.calm = true := by rfl) : CalD X (.builtin "sorted") [.dic ks ds] (.lst (ts.map D.str)) := ⟨_, call_sortedD hc, fun M H vs Q mt hv k => by
  obtain ⟨v, rfl, hw⟩ := rs1 hv
  unfold R at hw
  obtain ⟨a, xs, rfl, nm, ha, hlen, ra⟩ := hw
  refine ⟨a, ks.zip xs, ss, rfl, ha, by rw [List.map_fst_zip (by omega), hk], hl, fun ys p h1 h2 hp => ?_⟩
  obtain rfl := h ys h1 h2
  exact k _ _ (Ext.new hp) (r_newl mt hp (Rs.strs.mpr rfl))⟩
end
end Od

set_option Elab.async false
set_option linter.all false
set_option maxRecDepth 100000
set_option maxHeartbeats 4000000
/-! Pf: fillings as plain data; formulas in place of letters. -/
namespace Od
open PySem L2 TL PySem.Spec
abbrev Fil := List (Nat × Fm)
def Fil.f (g : Fil) (c : Nat) : Option Fm := (g.find? fun p => decide (p.1 = c)).map (·.2)
def sub (s : Nat → Option Fm) : Fm → Fm
  | .cst b => .cst b
  | .le c => (s c).getD (.le c)
  | .bin o a b => .bin o (sub s a) (sub s b)
def Fil.k (g : Fil) : List Key := g.map fun p => Sum.inr (sg p.1)
def Fil.v (g : Fil) (h : Fm → D) : List D := g.map fun p => h p.2
/-- the dict of a filling, its formulas told by h -/
def Fil.dict (g : Fil) (h : Fm → D) : D := .dic g.k (g.v h)
theorem sgK_inj {a b : Nat} : ((Sum.inr (sg a) : Key) = Sum.inr (sg b)) ↔ a = b := by
  constructor
  · intro h
    injection h with h
    have := congrArg tl h
    simpa using this
  · rintro rfl; rfl
theorem dvl_fil (h : Fm → D) (c : Nat) : ∀ g : Fil, dvl g.k (g.v h) (Sum.inr (sg c)) = (g.f c).map h
  | [] => rfl
  | p :: g => by
    show (if (Sum.inr (sg p.1) : Key) = Sum.inr (sg c) then some (h p.2) else dvl (Fil.k g) (Fil.v g h) (Sum.inr (sg c))) = _
    unfold Fil.f
    rw [List.find?_cons]
    by_cases hc : p.1 = c
    · rw [if_pos (sgK_inj.mpr hc), decide_eq_true hc]; rfl
    · rw [if_neg (fun z => hc (sgK_inj.mp z)), decide_eq_false hc, dvl_fil h c g]; rfl
structure Fil.Ok (g : Fil) : Prop where
  le : ∀ p ∈ g, p.1 ∈ alpha
  ok : ∀ p ∈ g, p.2.ok
  nd : (g.map (·.1)).Nodup
  len : g.length ≤ 60
theorem Fil.kl (g : Fil) (h : Fm → D) : g.k.length = (g.v h).length := by simp [Fil.k, Fil.v]
theorem Fil.knd (g : Fil) (h : g.Ok) : g.k.Nodup := by
  have : g.k = (g.map (·.1)).map fun c => (Sum.inr (sg c) : Key) := by simp [Fil.k]
  rw [this]
  exact List.Pairwise.map _ (fun a b hab hz => hab (sgK_inj.mp hz)) h.nd
theorem Fil.f_mem {g : Fil} {c : Nat} {x : Fm} (h : g.f c = some x) : (c, x) ∈ g := by
  unfold Fil.f at h
  cases hf : g.find? (fun p => decide (p.1 = c)) with
  | none => rw [hf] at h; cases h
  | some p =>
    rw [hf] at h
    have h1 := List.mem_of_find?_eq_some hf
    have h2 := List.find?_some hf
    cases h
    have : p.1 = c := by simpa using h2
    exact this ▸ h1
theorem Fil.f_of {g : Fil} {p : Nat × Fm} (h : p ∈ g) : ∃ x, g.f p.1 = some x := by
  unfold Fil.f
  cases hf : g.find? (fun q => decide (q.1 = p.1)) with
  | none =>
    have := List.find?_eq_none.mp hf p h
    simp at this
  | some q => exact ⟨q.2, rfl⟩
theorem Fil.f_nd : ∀ {g : Fil}, (g.map (·.1)).Nodup → ∀ {p : Nat × Fm}, p ∈ g → g.f p.1 = some p.2
  | [], _, _, h => by cases h
  | p0 :: g, nd, p, hp => by
    rw [List.map_cons, List.nodup_cons] at nd
    unfold Fil.f
    rw [List.find?_cons]
    rcases List.mem_cons.mp hp with rfl | hp
    · simp
    · have hne : ¬ (p0.1 = p.1) := fun z => nd.1 (z ▸ List.mem_map_of_mem (f := (·.1)) hp)
      rw [decide_eq_false hne]
      exact Fil.f_nd nd.2 hp
theorem Fil.f_eq {g : Fil} (h : g.Ok) {p : Nat × Fm} (hp : p ∈ g) : g.f p.1 = some p.2 := Fil.f_nd h.nd hp
theorem sub_ok {s : Nat → Option Fm} (hs : ∀ c x, s c = some x → x.ok) : ∀ f : Fm, f.ok → (sub s f).ok
  | .cst _, _ => trivial
  | .le c, h => by
    show ((s c).getD (.le c)).ok
    cases hc : s c with
    | none => exact h
    | some x => exact hs c x hc
  | .bin o a b, h => ⟨sub_ok hs a h.1, sub_ok hs b h.2⟩
theorem sub_sz {s : Nat → Option Fm} {m : Nat} (h1 : 1 ≤ m) (hs : ∀ c x, s c = some x → x.sz ≤ m) : ∀ f : Fm, (sub s f).sz ≤ f.sz * m
  | .cst _ => by show 1 ≤ 1 * m; omega
  | .le c => by
    show ((s c).getD (.le c)).sz ≤ 1 * m
    cases hc : s c with
    | none => show 1 ≤ 1 * m; omega
    | some x => show x.sz ≤ 1 * m; have := hs c x hc; omega
  | .bin o a b => by
    have ha := sub_sz h1 hs a
    have hb := sub_sz h1 hs b
    show 1 + ((sub s a).sz + (sub s b).sz) ≤ (1 + (a.sz + b.sz)) * m
    rw [Nat.add_mul, Nat.add_mul]
    omega
theorem sub_nest {s : Nat → Option Fm} {m : Nat} (h1 : 1 ≤ m) (hs : ∀ c x, s c = some x → x.nest ≤ m) : ∀ f : Fm, (sub s f).nest + 1 ≤ f.nest + m
  | .cst _ => by show 1 + 1 ≤ 1 + m; omega
  | .le c => by
    show ((s c).getD (.le c)).nest + 1 ≤ 1 + m
    cases hc : s c with
    | none => show 1 + 1 ≤ 1 + m; omega
    | some x => show x.nest + 1 ≤ 1 + m; have := hs c x hc; omega
  | .bin o a b => by
    have ha := sub_nest h1 hs a
    have hb := sub_nest h1 hs b
    show 1 + max (sub s a).nest (sub s b).nest + 1 ≤ 1 + max a.nest b.nest + m
    omega
theorem sub_sub (s t : Nat → Option Fm) : ∀ f : Fm, sub t (sub s f) = sub (fun c => (s c).elim (t c) fun x => some (sub t x)) f
  | .cst _ => rfl
  | .le c => by
    show sub t ((s c).getD (.le c)) = ((s c).elim (t c) fun x => some (sub t x)).getD (.le c)
    cases s c with
    | none => rfl
    | some x => rfl
  | .bin o a b => by
    show Fm.bin o (sub t (sub s a)) (sub t (sub s b)) = _
    rw [sub_sub s t a, sub_sub s t b]; rfl
theorem sub_congr {s t : Nat → Option Fm} (h : ∀ c, s c = t c) (f : Fm) : sub s f = sub t f := by rw [funext h]
theorem sub_id {s : Nat → Option Fm} : ∀ f : Fm, (∀ c, f.has c = true → s c = none ∨ s c = some (.le c)) → sub s f = f
  | .cst _, _ => rfl
  | .le c, h => by
    show (s c).getD (.le c) = _
    rcases h c (by simp [Fm.has]) with h | h <;> rw [h] <;> rfl
  | .bin o a b, h => by
    show Fm.bin o (sub s a) (sub s b) = _
    rw [sub_id a fun c hc => h c (by simp [Fm.has, hc]), sub_id b fun c hc => h c (by simp [Fm.has, hc])]
end Od

set_option Elab.async false
set_option linter.all false
set_option maxRecDepth 100000
set_option maxHeartbeats 4000000
/-! Ox1: own errors whose __init__ begins with super().__init__(text), then sets code and perhaps one field. -/
namespace Ox
open PySem PySem.W PySem.Calls PyProof.Rows PySem.HandSPX
abbrev supE (msg : Str) (p0 p1 p2 p3 p4 : Pos) (j : Nat) : Expr := .Call (.Attribute (.Call (.Name "super" p0) [] [] p1) "__init__" p2) [.Constant (.str msg) j p3] [] p4
/-- how that call is evaluated -/
def SupEv (msg : Str) (p0 p1 p2 p3 p4 : Pos) (j : Nat) (pl : Sem Bool) (env : Env) : Prop := eval (supE msg p0 p1 p2 p3 p4 j) env = (do
      let ov ← attributeBase (.Call (.Name "super" p0) [] [] p1) "__init__" env (eval (.Call (.Name "super" p0) [] [] p1) env)
      standAt p2.atName
      let (f, first) ← holding [ov] (getMethod ov "__init__" pl)
      callWith p4 f first (backTo p4 (starEach [.Constant (.str msg) j p3] env)) [])
/-- the body: with a field -/
def bod1 (msg code fl : Str) (p0 p1 p2 p3 p4 p5 q1 q2 q3 q4 r1 r2 r3 r4 : Pos) (j k : Nat) : List Stmt :=
  [.Expr (.Call (.Attribute (.Call (.Name "super" p0) [] [] p1) "__init__" p2) [.Constant (.str msg) j p3] [] p4) p5,
   .Assign [.Attribute (.Name "self" q1) "code" q2] (.Constant (.str code) k q3) q4,
   .Assign [.Attribute (.Name "self" r1) fl r2] (.Name fl r3) r4]
/-- .. without -/
def bod0 (msg code : Str) (p0 p1 p2 p3 p4 p5 q1 q2 q3 q4 : Pos) (j k : Nat) : List Stmt :=
  [.Expr (.Call (.Attribute (.Call (.Name "super" p0) [] [] p1) "__init__" p2) [.Constant (.str msg) j p3] [] p4) p5,
   .Assign [.Attribute (.Name "self" q1) "code" q2] (.Constant (.str code) k q3) q4]
/-- what the written part says of the class at C -/
structure SupC (P : Program) (K : Frag) (C fI : Addr) : Prop where
  cls : ∃ nm q N bs bm sn sub ab col dd k0 k1 k2 k3 k5, K.lookup C = some (excClassObj nm q C N bs bm true sn sub ab col dd k0 k1 k2 k3 k5 "ValueError.__new__") ∧ refsVE bm = true
  sa : findIn K (.ref C) "__setattr__" = some (some (.builtin "object.__setattr__"))
  noC : findIn K (.ref C) "code" = some none
  iC : findIn K (.ref C) "__init__" = some (some (.ref fI))
  tC : typeIn K (.ref fI) = some (.type "function")
  kC : keepIn K (.ref C) = true
  exC : subIn K (.ref C) (.type "BaseException") = some true
  veC : subIn K (.ref C) (.type "ValueError") = some true
  tyC : typeIn K (.ref C) = some (.type "type")
  an : nsIn K cStatics "thirdparty.any" = some none
  up : ks_superIn K C C "__init__" = some (some (.builtin "ValueError.__init__"))
  own : mroIn K C (.ref C) = some true
  sup : nsIn K mainGlobals "super" = some none
  top : (P.main.scope.names.lookup ("super" : Str)).isSome = false
/-- its __init__ -/
structure SupI (P : Program) (K : Frag) (C fI : Addr) (qual : Str) (params : Arguments) (body : List Stmt) (scope : Scope) : Prop where
  fn : ∃ (oc : Value) (od : Option Addr) (doc pm : Value) (an : Option Addr) (cda : Addr) (ct : Value) (osl : Array (Option Value)) (cc : Addr), K.lookup fI = some ⟨oc, od, .func (ksFn "__init__" qual params body scope .none .none doc pm an (.ref cda) ct cc), osl⟩ ∧
    (∃ (file : Str) (tf : Tok) (vs : Array Value) (ccl : Value) (cdd : Option Addr) (ccs : Array (Option Value)), K.lookup cda = some ⟨ccl, cdd, .fields vs, ccs⟩ ∧ vs[2]? = some (.str file tf) ∧ ((P.main.file : Str) == file) = true) ∧
    (∃ (cl : Value) (cld : Option Addr) (csl : Array (Option Value)), K.lookup cc = some ⟨cl, cld, .cell (some (.ref C)), csl⟩) ∧ codeIn K (.ref cda) qual = true
  cell : ∀ x ∈ scope.names, x.2 ≠ .cell
  kind : scope.kind = .function
  co : scope.isCoroutine = false
  gen : scope.isGenerator = false
  slf : scope.names.lookup ("self" : Str) = some .local
  spr : scope.names.lookup ("super" : Str) = some .globalImplicit
  cls : scope.names.lookup ("__class__" : Str) = some .free
  head : ∃ ar : Arg, (params.posonlyargs ++ params.args).head? = some ar ∧ ar.arg = "self"
/-- what is left of a fresh exception at x -/
structure MadeE (h h' : Heap) (x C dx t1 : Addr) (m : Str → Option Value) : Prop where
  keep : ∀ b o, b ≠ x → h.get? b = some o → h'.get? b = some o
  obj : h'.get? x = some { cls := .ref C, dict := some dx, data := .fields #[.ref t1, .none, .none, .none, .bool false, .none] }
  dbig : h.objs.size ≤ dx
  dne : dx ≠ x
  ns : h'.Ns1 dx m
section
variable {prog : Program} {w : World} {M : Model} {A : Around} {E : Value → Shared → Prop} {R : Result → Shared → Prop} {h : Heap} {g : Array GenState} {d : Drawn} {t : Nat} {os : OsState} {K : Frag} {C fI : Addr}
/-- the bound built-in __init__, called -/
theorem call_mw {nm q : Str} {N : Addr} {bs bm bmB : List Value} {hdct : Bool} {sn : List Str} {sub : List Value} {ab : Bool} {col : Option Bool} {dd : Option Addr} {k0 k1 k2 k3 k5 : Option Value} {B newId i : String} {u e t0 : Addr} {rest : List Value} {Q : Value → Shared → Prop} (FB : ExcBaseFacts B newId i bmB)
    (hC : h.get? C = some (excClassObj nm q C N bs bm hdct sn sub ab col dd k0 k1 k2 k3 k5 newId)) (he : h.get? e = some (excO C t0)) (hu : h.get? u = some (kxs_mw i e)) (hz : rest.length ≤ sizeLine)
    (hq : ∀ h', (∀ b o, b ≠ e → h.get? b = some o → h'.get? b = some o) → h'.get? e = some (excO C h.objs.size) → Q .none ⟨h', g, d, t, os⟩) : wpAny (model prog w) A (call (.ref u) rest) Q E ⟨h, g, d, t, os⟩ := by
  refine wpAny_call (codeAny_of_tree (show wpAny _ A.in1 (callAny (.ref u) ⟨rest, []⟩) _ _ _ from ?_))
  simp only [callAny]
  refine wpAny_bind (wpAny_load hu ?_)
  have m1 : (Value.type "method-wrapper" == Value.type "method" || Value.type "method-wrapper" == Value.type "builtin_function_or_method" || Value.type "method-wrapper" == Value.type "method-wrapper") = true := by decide
  simp only [kxs_mw, m1, if_true]
  refine KFB.if_so (by decide) (wpAny_bind (check_bound_init FB.toExcCallFacts hC he rfl (wpAny_bind (wpAny_pure (wpAny_pure ?_)))))
  exact ⟨plainId_quiet FB.init.plain _, codeAny_builtin FB.initEntry (exc_init_tree (cls := .ref C) (t0 := t0) (dv := none) (c2 := .none) (c3 := .none) (b4 := .bool false) he hz fun h' k1 k2 _ => hq h' k1 k2)⟩
end
section
variable {prog : Program} {w : World} {A : Around} {R : Result → Shared → Prop} {s : Shared} {K : Frag} {C fI : Addr} {qual msg code fl : Str} {params : Arguments} {scope : Scope} {mg mb : Str → Option Value}
theorem ne_K {x a : Addr} {o : Obj} (hx : K.lookup x = none) (e : K.lookup a = some o) : a ≠ x := fun z => by rw [z, hx] at e; cases e
theorem in_but {h h' : Heap} {x : Addr} (X : K.In h) (hx : K.lookup x = none) (k : ∀ b o, b ≠ x → h.get? b = some o → h'.get? b = some o) : K.In h' := fun a o e => k a o (ne_K hx e) (X a o e)
/-- the first statement -/
theorem sup_first {body : List Stmt} {rest : List Stmt} {cc cda L : Addr} {p0 p1 p2 p3 p4 p5 : Pos} {j : Nat} {x t0 : Addr} {m : Str → Option Value} {E : Value → Shared → Prop} {Q : Flow → Shared → Prop} {fd : FuncData} {oc : Value} {od : Option Addr} {osl : Array (Option Value)} {pl : Sem Bool}
    (T : SupC prog K C fI) (hev : SupEv msg p0 p1 p2 p3 p4 j pl (ksEnv qual scope L fI (.ref cda) cc)) (hi : interactive (ksEnv qual scope L fI (.ref cda) cc) = false) (hsw : swapsWith (supE msg p0 p1 p2 p3 p4 j) none p5.line (ksEnv qual scope L fI (.ref cda) cc) = pure false) (X : K.In s.heap) (hg : s.heap.Ns mainGlobals mg) (hb : s.heap.Ns builtinsNs mb) (hbb : ∀ y : Str, y ≠ "__name__" → mb y = bootBuiltins y)
    (hks : scope.names.lookup ("super" : Str) = some .globalImplicit) (hkc : scope.names.lookup ("__class__" : Str) = some .free) (hka : scope.names.lookup ("self" : Str) = some .local) (hk : scope.kind = .function)
    (hf : K.lookup fI = some ⟨oc, od, .func fd, osl⟩) (hp : ∃ ar : Arg, (fd.params.posonlyargs ++ fd.params.args).head? = some ar ∧ ar.arg = "self")
    (hcode : ∃ (file : Str) (tf : Tok) (vs : Array Value) (ccl : Value) (cdd : Option Addr) (ccs : Array (Option Value)), K.lookup cda = some ⟨ccl, cdd, .fields vs, ccs⟩ ∧ vs[2]? = some (.str file tf) ∧ ((prog.main.file : Str) == file) = true)
    (hcell : ∃ (cl : Value) (cld : Option Addr) (csl : Array (Option Value)), K.lookup cc = some ⟨cl, cld, .cell (some (.ref C)), csl⟩)
    (hn : s.heap.Ns L m) (hs : m "self" = some (.ref x)) (hx : s.heap.get? x = some (excO C t0)) (hnx : K.lookup x = none)
    (hq : ∀ h' tk t1, (∀ b o, b ≠ x → s.heap.get? b = some o → h'.get? b = some o) → h'.get? x = some (excO C t1) → wpAny (model prog w) A (execs rest (ksEnv qual scope L fI (.ref cda) cc)) Q E { s with heap := h', toks := tk }) :
    PySem.wpAt (model prog w) A (.func body (ksEnv qual scope L fI (.ref cda) cc)) (execs (.Expr (.Call (.Attribute (.Call (.Name "super" p0) [] [] p1) "__init__" p2) [.Constant (.str msg) j p3] [] p4) p5 :: rest) (ksEnv qual scope L fI (.ref cda) cc)) Q E s := by
  obtain ⟨ar, hp1, hp2⟩ := hp
  obtain ⟨file, tf, vs, ccl, cdd, ccs, hc1, hc2, hc3⟩ := hcode
  obtain ⟨cl, cld, csl, hcc⟩ := hcell
  obtain ⟨nm, q, N, bs, bm, sn, sub, ab, col, dd, k0, k1, k2, k3, k5, hC, hbm⟩ := T.cls
  have hcl : clsIn K C = some { name := nm, bases := bs, mro := .ref C :: bm, ns := N, qualname := q, hasDict := true, slotNames := sn, subclasses := sub, abstract := ab, collection := col, hasDel := false } := by unfold clsIn; rw [hC] <;> rfl
  refine ks_wpAt_execs_cons (ks_wpAt_Expr_any (ks_wpAt_MethodCall (pl := pl) ?_ hev) hi hsw)
  obtain ⟨hh, g, d, t, os⟩ := s
  refine ks_wpAt_super_base (env := ksEnv qual scope L fI (.ref cda) cc) hks hkc (by decide) rfl (X _ _ hf) rfl hp1 rfl (X _ _ hc1) rfl hc2 hc3 T.top ?_
  have b1 : mb "super" = some (.type "super") := (hbb _ (by decide +kernel)).trans (by first | rfl | decide +kernel)
  refine ks_loadName_global hk hks (loadGlobal_builtin (env := ksEnv qual scope L fI (.ref cda) cc) hg (PySem.W.mg_none_of X hg T.sup) hb b1 ⟨rfl, ?_⟩)
  refine wpAny_loadName_free hk hkc rfl ⟨_, X _ _ hcc, rfl⟩ ?_
  rw [hp2]
  refine wpAny_loadName_local hk hka hn hs ?_
  refine ks_wpAny_isType_cls (X _ _ hC) rfl ⟨rfl, ?_⟩
  refine ks_wpAny_call_super (X _ _ hC) rfl hx rfl (fun c e => by cases e) (looks_mroIn X T.own) fun h1 e1 kk => ?_
  have X1 : K.In h1 := X.keeps kk
  have hx1 := kk _ _ hx
  have I1 : InstAt h1 x (excO C t0) C none := ⟨hx1, rfl, rfl, trivial⟩
  have hsup : alongIn K "__init__" (((Value.ref C :: bm).dropWhile (· != .ref C)).drop 1) = some (some (.builtin "ValueError.__init__")) := by
    have := T.up
    unfold ks_superIn at this
    rw [hcl] at this
    exact this
  refine kxs_getMethod kxs_ValueError e1 (looks_opaque X1 T.an) (l₀ := .ref C :: bm) (fun A Q E s k q => wpAny_bind ((looks_clsIn X1 hcl) A _ E s k (wpAny_pure q))) rfl X1 hsup (I1.type.andThen (looks_subIn X1 T.veC)) (ks_ne X1 I1 hcl) (by decide) ?_
  have hu : (h1.push (kxs_mw "ValueError.__init__" x)).get? h1.objs.size = some (kxs_mw "ValueError.__init__" x) := Heap.get?_push_size _ rfl
  have k2 : ∀ b o, h1.get? b = some o → (h1.push (kxs_mw "ValueError.__init__" x)).get? b = some o := fun b o e => Heap.get?_push_of_some _ e
  refine kxs_callWith (i := "ValueError.__init__") (x := x) rfl ?_
  refine PySem.Calls.evalArgs_plain (PySem.Calls.spliced_cons (PySem.Calls.Constant_str (k := j) (pos := p3) (PySem.Calls.spliced_nil ⟨hu, ?_⟩)))
  refine call_mw PySem.F.excBase_ValueError (k2 _ _ (X1 _ _ hC)) (k2 _ _ hx1) hu (by rw [sizeLine_eq]; exact (by decide : 1 ≤ 16777216)) fun h3 k3 e3 => ?_
  exact _root_.PySem.wpAt_of_wpAny (hq h3 _ _ (fun b o n e => k3 b o n (k2 _ _ (kk _ _ e))) e3)
/-- what the evaluations in the body ask of the words alone -/
structure Ev (msg code fl : Str) (qual : Str) (scope : Scope) (fI : Addr) (p0 p1 p2 p3 p4 p5 q1 q2 q3 q4 r1 r2 r3 r4 : Pos) (j k : Nat) : Prop where
  ev : ∃ pl : Sem Bool, ∀ (L cda cc : Addr), SupEv msg p0 p1 p2 p3 p4 j pl (ksEnv qual scope L fI (.ref cda) cc)
  hi : ∀ (L cda cc : Addr), interactive (ksEnv qual scope L fI (.ref cda) cc) = false
  s1 : ∀ (L cda cc : Addr), swapsWith (supE msg p0 p1 p2 p3 p4 j) none p5.line (ksEnv qual scope L fI (.ref cda) cc) = pure false
  s2 : ∀ (L cda cc : Addr), swapsWith (.Constant (.str code) k q3) (some (.Attribute (.Name "self" q1) "code" q2)) q4.line (ksEnv qual scope L fI (.ref cda) cc) = pure false
  s3 : ∀ (L cda cc : Addr), swapsWith (.Name fl r3) (some (.Attribute (.Name "self" r1) fl r2)) r4.line (ksEnv qual scope L fI (.ref cda) cc) = pure false
theorem lt_of {h h' : Heap} {x b : Addr} {o : Obj} (k : ∀ b o, b ≠ x → h.get? b = some o → h'.get? b = some o) (hx : ∃ o, h'.get? x = some o) (e : h.get? b = some o) : b < h'.objs.size := by
  by_cases z : b = x
  · obtain ⟨o', e'⟩ := hx
    rw [z]; exact Heap.lt_size e'
  · exact Heap.lt_size (k b o z e)
theorem sup_init1 {p0 p1 p2 p3 p4 p5 q1 q2 q3 q4 r1 r2 r3 r4 : Pos} {j k : Nat} (T : SupC prog K C fI) (I : SupI prog K C fI qual params (bod1 msg code fl p0 p1 p2 p3 p4 p5 q1 q2 q3 q4 r1 r2 r3 r4 j k) scope) (V : Ev msg code fl qual scope fI p0 p1 p2 p3 p4 p5 q1 q2 q3 q4 r1 r2 r3 r4 j k)
    (hfl : scope.names.lookup fl = some .local) (nfl : findIn K (.ref C) fl = some none) (nes : (fl == ("self" : Str)) = false) (nd1 : (fl == ("__debug__" : Str)) = false)
    (hb : ∀ (doc pm : Value) (an : Option Addr) (cdv ct : Value) (cc : Addr) (a b : Value), bindArgs (ksFn "__init__" qual params (bod1 msg code fl p0 p1 p2 p3 p4 p5 q1 q2 q3 q4 r1 r2 r3 r4 j k) scope .none .none doc pm an cdv ct cc) ⟨[a, b], []⟩ = pure [(("self" : Str), a), (fl, b)])
    {x t0 : Addr} {v : Value} (X : K.In s.heap) (hlim : s.heap.NoLimit) (hg : s.heap.Ns mainGlobals mg) (hbn : s.heap.Ns builtinsNs mb) (hbb : ∀ y : Str, y ≠ "__name__" → mb y = bootBuiltins y)
    (hx : s.heap.get? x = some (excO C t0)) (hnx : K.lookup x = none) (hxg : x ≠ mainGlobals) (hroom : A.depth < recursionLimit)
    (hq : ∀ h' tk dx t1 tc, MadeE s.heap h' x C dx t1 (fun y => if y = fl then some v else if y = "code" then some (.str code tc) else none) → R (.ok (.ret .none)) { s with heap := h', toks := tk }) :
    codeAny (model prog w) A (.call (.ref fI) ⟨[.ref x, v], []⟩) R s := by
  obtain ⟨oc, od, doc, pm, an, cda, ct, osl, cc, hf, hcode, hcell, hcd⟩ := I.fn
  obtain ⟨nm, q, N, bs, bm, sn, sub, ab, col, dd, k0, k1, k2, k3, k5, hC, hbm⟩ := T.cls
  have hcl : clsIn K C = some { name := nm, bases := bs, mro := .ref C :: bm, ns := N, qualname := q, hasDict := true, slotNames := sn, subclasses := sub, abstract := ab, collection := col, hasDel := false } := by unfold clsIn; rw [hC] <;> rfl
  obtain ⟨pl, ev⟩ := V.ev
  refine ks_codeAny_call_defAt (fd := ksFn "__init__" qual params (bod1 msg code fl p0 p1 p2 p3 p4 p5 q1 q2 q3 q4 r1 r2 r3 r4 j k) scope .none .none doc pm an (.ref cda) ct cc) (body := bod1 msg code fl p0 p1 p2 p3 p4 p5 q1 q2 q3 q4 r1 r2 r3 r4 j k) (binds := [(("self" : Str), .ref x), (fl, v)]) hroom (X _ _ hf) rfl hlim (codeRec_of X hcd) rfl (BindsTo.of_eq (hb _ _ _ _ _ _ _ _)) I.cell (fun y hy => ?_) (fun h1 hn kk => ?_) I.co I.gen I.kind
  · rcases List.mem_cons.mp hy with rfl | hy
    · exact I.slf
    · rcases List.mem_singleton.mp hy with rfl
      exact hfl
  have lk1 : (([(("self" : Str), .ref x), (fl, v)] : List (Str × Value)).reverse).lookup ("self" : Str) = some (.ref x) := by
    have nes' : (("self" : Str) == fl) = false := by
      rw [beq_eq_false_iff_ne] at nes ⊢
      exact fun z => nes z.symm
    simp [List.lookup, nes']
  have lk2 : (([(("self" : Str), .ref x), (fl, v)] : List (Str × Value)).reverse).lookup fl = some v := by simp [List.lookup]
  have hxL : s.heap.objs.size ≠ x := Nat.ne_of_gt (Heap.lt_size hx)
  obtain ⟨hh, g, d, tk0, os⟩ := s
  have KX1 : K.In h1 := X.keeps kk
  refine sup_first (mg := mg) (mb := mb) (m := fun y => (([(("self" : Str), .ref x), (fl, v)] : List (Str × Value)).reverse).lookup y) (x := x) (t0 := t0) T (ev _ _ _) (V.hi _ _ _) (V.s1 _ _ _) KX1 (hg.keeps kk) (hbn.keeps kk) hbb I.spr I.cls I.slf I.kind hf I.head hcode hcell hn lk1 (kk _ _ hx) hnx fun h2 tk2 t2 k2' hx2 => ?_
  have K2 : K.In h2 := in_but KX1 hnx k2'
  have hn2 : h2.Ns hh.objs.size (fun y => (([(("self" : Str), .ref x), (fl, v)] : List (Str × Value)).reverse).lookup y) := hn.at fun o e => k2' _ _ hxL e
  have ldS : ∀ {h : Heap} {M : Model} {A : Around} {E : Value → Shared → Prop} {Q : Value → Shared → Prop} {pos : Pos} {g : Array GenState} {d : Drawn} {t : Nat} {os : OsState}, h.Ns hh.objs.size (fun y => (([(("self" : Str), .ref x), (fl, v)] : List (Str × Value)).reverse).lookup y) → Q (.ref x) ⟨h, g, d, t, os⟩ →
      wpAny M A (eval (.Name "self" pos) (ksEnv qual scope hh.objs.size fI (.ref cda) cc)) Q E ⟨h, g, d, t, os⟩ := fun hn h => PySem.ESX.ldL hn lk1 h I.kind I.slf
  refine wpAny_execs_cons (plainObj_wpAny_Assign_Attribute ?_ (V.s2 _ _ _))
  refine PySem.Calls.Constant_str (ldS hn2 ?_)
  refine set_plain K2 (ox := excO C t2) (od := none) ⟨hx2, rfl, rfl, trivial⟩ T.sa ?_
  refine exc_osa K2 hx2 hcl (show refsVE (.ref C :: bm) = true from hbm) rfl T.noC fun h3 tk3 dx k3' dn dne hx3 hns3 => ?_
  have K3 : K.In h3 := in_but K2 hnx k3'
  have hn3 : h3.Ns hh.objs.size (fun y => (([(("self" : Str), .ref x), (fl, v)] : List (Str × Value)).reverse).lookup y) := hn2.at fun o e => k3' _ _ hxL e
  have ldF : ∀ {M : Model} {A : Around} {E : Value → Shared → Prop} {Q : Value → Shared → Prop} {pos : Pos} {g : Array GenState} {d : Drawn} {t : Nat} {os : OsState}, Q v ⟨h3, g, d, t, os⟩ →
      wpAny M A (eval (.Name fl pos) (ksEnv qual scope hh.objs.size fI (.ref cda) cc)) Q E ⟨h3, g, d, t, os⟩ := fun h => PySem.ESX.ldL hn3 lk2 h I.kind hfl nd1
  refine wpAny_execs_cons (plainObj_wpAny_Assign_Attribute ?_ (V.s3 _ _ _))
  refine ldF (ldS hn3 ?_)
  obtain ⟨oD, _, _, hoD, _, _⟩ := hns3.count (Within.cons "code" _ Within.nil)
  refine set_plain K3 (ox := { cls := .ref C, dict := some dx, data := .fields #[.ref t2, .none, .none, .none, .bool false, .none] }) (od := some oD) ⟨hx3, rfl, rfl, hoD⟩ T.sa ?_
  refine PySem.OEX.osa_old K3 hx3 hns3 (Within.cons "code" _ Within.nil) (by decide) hcl (show refsVE (.ref C :: bm) = true from hbm) rfl nfl fun h4 tk4 k4' hn4 => ?_
  have zz : hh.objs.size ≤ h2.objs.size := by
    have l1 : hh.objs.size < h1.objs.size := hn.lt
    have l2 : hh.objs.size < h2.objs.size := hn2.lt
    omega
  refine wpAny_execs_nil (hq h4 _ dx t2 _ ⟨fun b o n e => ?_, ?_, Nat.le_trans zz dn, dne, hn4⟩)
  · have e3 := k3' b o n (k2' b o n (kk b o e))
    refine k4' b o (fun z => ?_) e3
    rw [z] at e
    have lt : dx < hh.objs.size := Heap.lt_size e
    exact absurd (Nat.lt_of_lt_of_le lt (Nat.le_trans zz (show h2.objs.size ≤ dx from dn))) (Nat.lt_irrefl _)
  · exact k4' x _ (Ne.symm dne) hx3
structure Ev0 (msg code : Str) (qual : Str) (scope : Scope) (fI : Addr) (p0 p1 p2 p3 p4 p5 q1 q2 q3 q4 : Pos) (j k : Nat) : Prop where
  ev : ∃ pl : Sem Bool, ∀ (L cda cc : Addr), SupEv msg p0 p1 p2 p3 p4 j pl (ksEnv qual scope L fI (.ref cda) cc)
  hi : ∀ (L cda cc : Addr), interactive (ksEnv qual scope L fI (.ref cda) cc) = false
  s1 : ∀ (L cda cc : Addr), swapsWith (supE msg p0 p1 p2 p3 p4 j) none p5.line (ksEnv qual scope L fI (.ref cda) cc) = pure false
  s2 : ∀ (L cda cc : Addr), swapsWith (.Constant (.str code) k q3) (some (.Attribute (.Name "self" q1) "code" q2)) q4.line (ksEnv qual scope L fI (.ref cda) cc) = pure false
theorem sup_init0 {p0 p1 p2 p3 p4 p5 q1 q2 q3 q4 : Pos} {j k : Nat} (T : SupC prog K C fI) (I : SupI prog K C fI qual params (bod0 msg code p0 p1 p2 p3 p4 p5 q1 q2 q3 q4 j k) scope) (V : Ev0 msg code qual scope fI p0 p1 p2 p3 p4 p5 q1 q2 q3 q4 j k)
    (hb : ∀ (doc pm : Value) (an : Option Addr) (cdv ct : Value) (cc : Addr) (a : Value), bindArgs (ksFn "__init__" qual params (bod0 msg code p0 p1 p2 p3 p4 p5 q1 q2 q3 q4 j k) scope .none .none doc pm an cdv ct cc) ⟨[a], []⟩ = pure [(("self" : Str), a)])
    {x t0 : Addr} (X : K.In s.heap) (hlim : s.heap.NoLimit) (hg : s.heap.Ns mainGlobals mg) (hbn : s.heap.Ns builtinsNs mb) (hbb : ∀ y : Str, y ≠ "__name__" → mb y = bootBuiltins y)
    (hx : s.heap.get? x = some (excO C t0)) (hnx : K.lookup x = none) (hxg : x ≠ mainGlobals) (hroom : A.depth < recursionLimit)
    (hq : ∀ h' tk dx t1 tc, MadeE s.heap h' x C dx t1 (fun y => if y = "code" then some (.str code tc) else none) → R (.ok (.ret .none)) { s with heap := h', toks := tk }) :
    codeAny (model prog w) A (.call (.ref fI) ⟨[.ref x], []⟩) R s := by
  obtain ⟨oc, od, doc, pm, an, cda, ct, osl, cc, hf, hcode, hcell, hcd⟩ := I.fn
  obtain ⟨nm, q, N, bs, bm, sn, sub, ab, col, dd, k0, k1, k2, k3, k5, hC, hbm⟩ := T.cls
  have hcl : clsIn K C = some { name := nm, bases := bs, mro := .ref C :: bm, ns := N, qualname := q, hasDict := true, slotNames := sn, subclasses := sub, abstract := ab, collection := col, hasDel := false } := by unfold clsIn; rw [hC] <;> rfl
  obtain ⟨pl, ev⟩ := V.ev
  refine ks_codeAny_call_defAt (fd := ksFn "__init__" qual params (bod0 msg code p0 p1 p2 p3 p4 p5 q1 q2 q3 q4 j k) scope .none .none doc pm an (.ref cda) ct cc) (body := bod0 msg code p0 p1 p2 p3 p4 p5 q1 q2 q3 q4 j k) (binds := [(("self" : Str), .ref x)]) hroom (X _ _ hf) rfl hlim (codeRec_of X hcd) rfl (BindsTo.of_eq (hb _ _ _ _ _ _ _)) I.cell (fun y hy => ?_) (fun h1 hn kk => ?_) I.co I.gen I.kind
  · rcases List.mem_singleton.mp hy with rfl
    exact I.slf
  have lk1 : (([(("self" : Str), .ref x)] : List (Str × Value)).reverse).lookup ("self" : Str) = some (.ref x) := by
    simp [List.lookup]
  have hxL : s.heap.objs.size ≠ x := Nat.ne_of_gt (Heap.lt_size hx)
  obtain ⟨hh, g, d, tk0, os⟩ := s
  have KX1 : K.In h1 := X.keeps kk
  refine sup_first (mg := mg) (mb := mb) (m := fun y => (([(("self" : Str), .ref x)] : List (Str × Value)).reverse).lookup y) (x := x) (t0 := t0) T (ev _ _ _) (V.hi _ _ _) (V.s1 _ _ _) KX1 (hg.keeps kk) (hbn.keeps kk) hbb I.spr I.cls I.slf I.kind hf I.head hcode hcell hn lk1 (kk _ _ hx) hnx fun h2 tk2 t2 k2' hx2 => ?_
  have K2 : K.In h2 := in_but KX1 hnx k2'
  have hn2 : h2.Ns hh.objs.size (fun y => (([(("self" : Str), .ref x)] : List (Str × Value)).reverse).lookup y) := hn.at fun o e => k2' _ _ hxL e
  have ldS : ∀ {h : Heap} {M : Model} {A : Around} {E : Value → Shared → Prop} {Q : Value → Shared → Prop} {pos : Pos} {g : Array GenState} {d : Drawn} {t : Nat} {os : OsState}, h.Ns hh.objs.size (fun y => (([(("self" : Str), .ref x)] : List (Str × Value)).reverse).lookup y) → Q (.ref x) ⟨h, g, d, t, os⟩ →
      wpAny M A (eval (.Name "self" pos) (ksEnv qual scope hh.objs.size fI (.ref cda) cc)) Q E ⟨h, g, d, t, os⟩ := fun hn h => PySem.ESX.ldL hn lk1 h I.kind I.slf
  refine wpAny_execs_cons (plainObj_wpAny_Assign_Attribute ?_ (V.s2 _ _ _))
  refine PySem.Calls.Constant_str (ldS hn2 ?_)
  refine set_plain K2 (ox := excO C t2) (od := none) ⟨hx2, rfl, rfl, trivial⟩ T.sa ?_
  refine exc_osa K2 hx2 hcl (show refsVE (.ref C :: bm) = true from hbm) rfl T.noC fun h3 tk3 dx k3' dn dne hx3 hns3 => ?_
  have K3 : K.In h3 := in_but K2 hnx k3'
  have hn3 : h3.Ns hh.objs.size (fun y => (([(("self" : Str), .ref x)] : List (Str × Value)).reverse).lookup y) := hn2.at fun o e => k3' _ _ hxL e
  have zz : hh.objs.size ≤ h2.objs.size := by
    have l1 : hh.objs.size < h1.objs.size := hn.lt
    have l2 : hh.objs.size < h2.objs.size := hn2.lt
    omega
  refine wpAny_execs_nil (hq h3 _ dx t2 _ ⟨fun b o n e => k3' b o n (k2' b o n (kk b o e)), hx3, Nat.le_trans zz dn, dne, hns3⟩)
end
end Ox

set_option Elab.async false
set_option linter.all false
set_option maxRecDepth 100000
set_option maxHeartbeats 4000000
/-! Ox2: such an error made: C(v), C(); raise. -/
namespace Ox
open PySem PySem.W PySem.Calls PyProof.Rows PySem.HandSPX
/-- a made exception, and all that stood -/
structure MadeX (h h' : Heap) (e C d : Addr) (m : Str → Option Value) : Prop where
  keep : ∀ b o, h.get? b = some o → h'.get? b = some o
  new : h.objs.size ≤ e
  obj : ∃ oe vs, h'.get? e = some oe ∧ oe.cls = .ref C ∧ oe.dict = some d ∧ oe.data = .fields vs ∧ vs[1]? = some .none
  dbig : h.objs.size ≤ d
  dne : d ≠ e
  ns : h'.Ns1 d m
/-- the class c makes errors of the fields ns; given: what the call hands on and what the fields hold -/
structure Err (P : Program) (w : World) (K : Frag) (mg : Str → Option Value) (c : Str) (C : Addr) : Prop where
  mC : mg c = some (.ref C)
  kC : keepIn K (.ref C) = true
  exC : subIn K (.ref C) (.type "BaseException") = some true
  tyC : typeIn K (.ref C) = some (.type "type")
structure Err1 (P : Program) (w : World) (K : Frag) (mg : Str → Option Value) (c code fl : Str) (C : Addr) : Prop extends Err P w K mg c C where
  run : ∀ (A : Around) (s : Shared) (R : Result → Shared → Prop) (v : Value) (mb : Str → Option Value), K.In s.heap → s.heap.NoLimit → s.heap.Ns mainGlobals mg → s.heap.Ns builtinsNs mb → (∀ y : Str, y ≠ "__name__" → mb y = bootBuiltins y) → A.depth + 1 < recursionLimit →
    (∀ h' tk e d tc, MadeX s.heap h' e C d (fun y => if y = fl then some v else if y = "code" then some (.str code tc) else none) → R (.ok (.ret (.ref e))) { s with heap := h', toks := tk }) → codeAny (model P w) A (.call (.ref C) ⟨[v], []⟩) R s
structure Err0 (P : Program) (w : World) (K : Frag) (mg : Str → Option Value) (c code : Str) (C : Addr) : Prop extends Err P w K mg c C where
  run : ∀ (A : Around) (s : Shared) (R : Result → Shared → Prop) (mb : Str → Option Value), K.In s.heap → s.heap.NoLimit → s.heap.Ns mainGlobals mg → s.heap.Ns builtinsNs mb → (∀ y : Str, y ≠ "__name__" → mb y = bootBuiltins y) → A.depth + 1 < recursionLimit →
    (∀ h' tk e d tc, MadeX s.heap h' e C d (fun y => if y = "code" then some (.str code tc) else none) → R (.ok (.ret (.ref e))) { s with heap := h', toks := tk }) → codeAny (model P w) A (.call (.ref C) ⟨[], []⟩) R s
section
variable {P : Program} {w : World} {A : Around} {R : Result → Shared → Prop} {s : Shared} {K : Frag} {C fI : Addr} {mg mb : Str → Option Value}
theorem ns_push2 {h : Heap} {b : Addr} {m : Str → Option Value} {o1 o2 : Obj} (n : h.Ns b m) : ((h.push o1).push o2).Ns b m := n.keeps fun b o e => Heap.get?_push_of_some _ (Heap.get?_push_of_some _ e)
theorem new_none {h : Heap} (X : K.In h) : K.lookup (h.objs.size + 1) = none := by
  cases e : K.lookup (h.objs.size + 1) with
  | none => rfl
  | some o => exact absurd (Nat.lt_of_succ_lt (Heap.lt_size (X _ _ e))) (Nat.lt_irrefl _)
theorem size_push2 {h : Heap} {o1 o2 : Obj} : ((h.push o1).push o2).objs.size = h.objs.size + 1 + 1 := by rw [Heap.size_push, Heap.size_push]
theorem made_of {h h' : Heap} {args : List Value} {dx t1 : Addr} {m : Str → Option Value} (M : MadeE ((h.push (kdv_tup args)).push (excO C h.objs.size)) h' (h.objs.size + 1) C dx t1 m) : MadeX h h' (h.objs.size + 1) C dx m := by
  obtain ⟨kp, hx, dn, dne, hns⟩ := M
  have kk : ∀ b o, h.get? b = some o → ((h.push (kdv_tup args)).push (excO C h.objs.size)).get? b = some o := fun b o e => Heap.get?_push_of_some _ (Heap.get?_push_of_some _ e)
  rw [size_push2] at dn
  exact ⟨fun b o e => kp b o (Nat.ne_of_lt (Nat.lt_succ_of_lt (Heap.lt_size e))) (kk b o e), Nat.le_succ _, ⟨_, _, hx, rfl, rfl, rfl, rfl⟩, by omega, dne, hns⟩
theorem err1_of {c msg code fl qual : Str} {params : Arguments} {scope : Scope} {p0 p1 p2 p3 p4 p5 q1 q2 q3 q4 r1 r2 r3 r4 : Pos} {j k : Nat} (mC : mg c = some (.ref C)) (T : SupC P K C fI) (I : SupI P K C fI qual params (bod1 msg code fl p0 p1 p2 p3 p4 p5 q1 q2 q3 q4 r1 r2 r3 r4 j k) scope) (V : Ev msg code fl qual scope fI p0 p1 p2 p3 p4 p5 q1 q2 q3 q4 r1 r2 r3 r4 j k)
    (hfl : scope.names.lookup fl = some .local) (nfl : findIn K (.ref C) fl = some none) (nes : (fl == ("self" : Str)) = false) (nd1 : (fl == ("__debug__" : Str)) = false)
    (hb : ∀ (doc pm : Value) (an : Option Addr) (cdv ct : Value) (cc : Addr) (a b : Value), bindArgs (ksFn "__init__" qual params (bod1 msg code fl p0 p1 p2 p3 p4 p5 q1 q2 q3 q4 r1 r2 r3 r4 j k) scope .none .none doc pm an cdv ct cc) ⟨[a, b], []⟩ = pure [(("self" : Str), a), (fl, b)]) : Err1 P w K mg c code fl C where
  mC := mC
  kC := T.kC
  exC := T.exC
  tyC := T.tyC
  run := fun A s R v mb X hlim hg hbn hbb hroom hq => by
    obtain ⟨nm, q, N, bs, bm, sn, sub, ab, col, dd, k0, k1, k2, k3, k5, hC, hbm⟩ := T.cls
    obtain ⟨hp, g, dr, tk, os⟩ := s
    have kk : ∀ b o, hp.get? b = some o → ((hp.push (kdv_tup [v])).push (excO C hp.objs.size)).get? b = some o := fun b o e => Heap.get?_push_of_some _ (Heap.get?_push_of_some _ e)
    have hget : ((hp.push (kdv_tup [v])).push (excO C hp.objs.size)).get? (hp.objs.size + 1) = some (excO C hp.objs.size) := by heap_get
    refine call_own F.excBase_ValueError (fun Y => refsVE_contains Y bm hbm) (X _ _ hC) (looks_findIn X T.iC) (fun self => bind_fn X self T.tC) (by rw [sizeLine_eq]; simp) ?_
    refine sup_init1 (s := ⟨(hp.push (kdv_tup [v])).push (excO C hp.objs.size), g, dr, tk, os⟩) T I V hfl nfl nes nd1 hb (X.keeps kk) (hlim.keeps kk) (hg.keeps kk) (hbn.keeps kk) hbb hget (new_none X) (fun z => ?_) hroom fun h' tk' dx t1 tc M => ⟨rfl, hq h' tk' _ dx tc (made_of M)⟩
    obtain ⟨o, _, _, e, _⟩ := hg
    have := Heap.lt_size e
    rw [← z] at this
    exact absurd (Nat.lt_of_succ_lt this) (Nat.lt_irrefl _)
theorem err0_of {c msg code fl qual : Str} {params : Arguments} {scope : Scope} {p0 p1 p2 p3 p4 p5 q1 q2 q3 q4 : Pos} {j k : Nat} (mC : mg c = some (.ref C)) (T : SupC P K C fI) (I : SupI P K C fI qual params (bod0 msg code p0 p1 p2 p3 p4 p5 q1 q2 q3 q4 j k) scope) (V : Ev0 msg code qual scope fI p0 p1 p2 p3 p4 p5 q1 q2 q3 q4 j k)
    (hb : ∀ (doc pm : Value) (an : Option Addr) (cdv ct : Value) (cc : Addr) (a : Value), bindArgs (ksFn "__init__" qual params (bod0 msg code p0 p1 p2 p3 p4 p5 q1 q2 q3 q4 j k) scope .none .none doc pm an cdv ct cc) ⟨[a], []⟩ = pure [(("self" : Str), a)]) : Err0 P w K mg c code C where
  mC := mC
  kC := T.kC
  exC := T.exC
  tyC := T.tyC
  run := fun A s R mb X hlim hg hbn hbb hroom hq => by
    obtain ⟨nm, q, N, bs, bm, sn, sub, ab, col, dd, k0, k1, k2, k3, k5, hC, hbm⟩ := T.cls
    obtain ⟨hp, g, dr, tk, os⟩ := s
    have kk : ∀ b o, hp.get? b = some o → ((hp.push (kdv_tup [])).push (excO C hp.objs.size)).get? b = some o := fun b o e => Heap.get?_push_of_some _ (Heap.get?_push_of_some _ e)
    have hget : ((hp.push (kdv_tup [])).push (excO C hp.objs.size)).get? (hp.objs.size + 1) = some (excO C hp.objs.size) := by heap_get
    refine call_own F.excBase_ValueError (fun Y => refsVE_contains Y bm hbm) (X _ _ hC) (looks_findIn X T.iC) (fun self => bind_fn X self T.tC) (by rw [sizeLine_eq]; simp) ?_
    refine sup_init0 (s := ⟨(hp.push (kdv_tup [])).push (excO C hp.objs.size), g, dr, tk, os⟩) T I V hb (X.keeps kk) (hlim.keeps kk) (hg.keeps kk) (hbn.keeps kk) hbb hget (new_none X) (fun z => ?_) hroom fun h' tk' dx t1 tc M => ⟨rfl, hq h' tk' _ dx tc (made_of M)⟩
    obtain ⟨o, _, _, e, _⟩ := hg
    have := Heap.lt_size e
    rw [← z] at this
    exact absurd (Nat.lt_of_succ_lt this) (Nat.lt_irrefl _)
end
end Ox
namespace L2
open PySem PySem.Spec PyProof.Rows Ox
theorem relO_xd {ns : List (Str × V)} {m : Str → Option Value} (h : ∀ f, RelO (ns.lookup f) (m f)) (f : Str) : RelO (ns.lookup f) (m f) := h f
theorem relO_1 {fl code : Str} {v : V} {v' : Value} {tc : Tok} (r : RelV v v') (hne : (fl == ("code" : Str)) = false) (f : Str) : RelO (List.lookup f [(("code" : Str), V.str code), (fl, v)]) (if f = fl then some v' else if f = "code" then some (.str code tc) else none) := by
  by_cases h : f = fl
  · subst h
    rw [if_pos rfl]
    have q : List.lookup f [(("code" : Str), V.str code), (f, v)] = some v := by simp [List.lookup, hne]
    rw [q]; exact r
  · rw [if_neg h]
    have h' : (f == fl) = false := by simpa using h
    by_cases h2 : f = "code"
    · subst h2
      rw [if_pos rfl]
      have q : List.lookup ("code" : Str) [(("code" : Str), V.str code), (fl, v)] = some (V.str code) := by simp [List.lookup]
      rw [q]; exact ⟨tc, rfl⟩
    · rw [if_neg h2]
      have h2' : (f == ("code" : Str)) = false := by simpa using h2
      have q : List.lookup f [(("code" : Str), V.str code), (fl, v)] = none := by simp [List.lookup, h', h2']
      rw [q]; trivial
theorem relO_0 {code : Str} {tc : Tok} (f : Str) : RelO (List.lookup f [(("code" : Str), V.str code)]) (if f = "code" then some (.str code tc) else none) := by
  by_cases h2 : f = "code"
  · subst h2
    rw [if_pos rfl]
    have q : List.lookup ("code" : Str) [(("code" : Str), V.str code)] = some (V.str code) := by simp [List.lookup]
    rw [q]; exact ⟨tc, rfl⟩
  · rw [if_neg h2]
    have h2' : (f == ("code" : Str)) = false := by simpa using h2
    have q : List.lookup f [(("code" : Str), V.str code)] = none := by simp [List.lookup, h2']
    rw [q]; trivial
section
variable {X : Cx} {C : Addr} {c code fl : Str}
theorem mkp_of {pins : List (Addr × Obj)} {σ : L2.St} {H1 : Hp} {Q : XK} {hp h' : Heap} {g : Array GenState} {dr : Drawn} {tk tk' : Nat} {os : OsState} {e d : Addr} {m : Str → Option Value} {fs : List (Str × V)} (E : Err X.prog X.w X.K X.mg c C) (I1 : Inv X pins σ H1 ⟨hp, g, dr, tk, os⟩)
    (M : MadeX hp h' e C d m) (hr : ∀ f, RelO (fs.lookup f) (m f)) (q1 : ∀ d, H1 d = none → Q (.ref C) (some d) (upd H1 d (.xd fs))) : MkP X pins σ Q (.ref e) ⟨h', g, dr, tk', os⟩ := by
  obtain ⟨oe, fv, hoe, hc, hd, hdat, h1⟩ := M.obj
  obtain ⟨G', g1, g2⟩ := restrict h' fun b => decide (b ≠ e)
  have gk : ∀ b, b ≠ e → G'.get? b = h'.get? b := fun b hb => g1 b (decide_eq_true hb)
  have ge : G'.get? e = none := g2 e (by simp)
  have J : Inv X pins σ (upd H1 d (.xd fs)) ⟨G', g, dr, tk', os⟩ := I1.laid (t' := tk') (fun b o q => (gk b (Nat.ne_of_lt (Nat.lt_of_lt_of_le (Heap.lt_size q) M.new))).trans (M.keep b o q)) M.dbig
    (⟨_, M.ns.at (fun o q => (gk d M.dne).trans q), hr⟩ : ObjOk X.prog X.w (upd H1 d (.xd fs)) G' d (.xd fs))
  refine ⟨e, oe, fv, ⟨G', g, dr, tk', os⟩, _, .ref C, some d, rfl, J, fun b o q => ?_, ge, hoe, ⟨hc, hd⟩, hdat, h1, ?_, rfl, I1.bare, raises_own E.exC E.tyC, q1 d (I1.hok.fresh M.dbig)⟩
  · by_cases hb : b = e
    · have q' : G'.get? b = some o := q
      rw [hb, ge] at q'; cases q'
    · exact (gk b hb).symm.trans q
  · rw [upd_ne (Ne.symm M.dne)]; exact I1.hok.fresh M.new
/-- c(e) -/
def tMk1 (C : Addr) (code fl : Str) (ta : TA) : L2.St → Hp → XK → Prop := fun σ H Q => ta σ H fun vs H1 => ∃ v, vs = [v] ∧ ∀ d, H1 d = none → Q (.ref C) (some d) (upd H1 d (.xd [(("code" : Str), .str code), (fl, v)]))
def tMk0 (C : Addr) (code : Str) : L2.St → Hp → XK → Prop := fun σ H Q => ∀ d, H d = none → Q (.ref C) (some d) (upd H d (.xd [(("code" : Str), .str code)]))
theorem pmk_1 {a : Expr} {ta : TA} {p pos : Pos} {k : Nat} (T : Err1 X.prog X.w X.K X.mg c code fl C) (hne : (fl == ("code" : Str)) = false) (hr : Room k X.A) (ha : PA X [a] ta) (hg : Gl X c) (hdb : (c == ("__debug__" : Str)) = false) (he : starEach (a :: []) X.env = (false, eval a X.env) :: starEach [] X.env) (hpl : (backTo pos (starEach [] X.env)).any (·.1) = false) : PMk X (.Call (.Name c p) [a] [] pos) (tMk1 C code fl ta) := by
  intro pins s σ H Q I h
  refine wpAny_Call_Name_kw (ld_glob I hg T.mC (PySem.W.callWith_K (h₀ := X.base) I.ok.mod.kin T.kC (thn (ha.run pos pins s σ H _ I h) fun us s1 hh => ?_) he hpl) hdb)
  obtain ⟨vs, H1, I1, r1, v, ev, q1⟩ := hh
  subst ev
  refine ⟨I1.kIn, ?_⟩
  cases r1 with
  | cons rv rn =>
    rename_i v' us'
    cases rn
    have hlim := I1.nolimit
    have hgl := I1.mod.glob.keeps I1.bk
    obtain ⟨mb, hb1, hb2⟩ := I1.mod.blt
    have hbn := hb1.keeps I1.bk
    obtain ⟨hp, g, dr, tk, os⟩ := s1
    exact wpAny_call (T.run X.A ⟨hp, g, dr, tk, os⟩ _ v' mb I1.kIn hlim hgl hbn hb2 (by have := hr.dp; omega) fun h' tk' e d tc M => mkp_of T.toErr I1 M (fun f => relO_1 rv hne f) q1)
theorem pmk_0 {p pos : Pos} {k : Nat} (T : Err0 X.prog X.w X.K X.mg c code C) (hr : Room k X.A) (hg : Gl X c) (hdb : (c == ("__debug__" : Str)) = false) : PMk X (.Call (.Name c p) [] [] pos) (tMk0 C code) := by
  intro pins s σ H Q I h
  refine wpAny_Call_Name_kw (ld_glob I hg T.mC (PySem.W.callWith_K0 I.kIn T.kC ?_) hdb)
  have hlim := I.nolimit
  have hgl := I.mod.glob.keeps I.bk
  obtain ⟨mb, hb1, hb2⟩ := I.mod.blt
  have hbn := hb1.keeps I.bk
  obtain ⟨hp, g, dr, tk, os⟩ := s
  exact wpAny_call (T.run X.A ⟨hp, g, dr, tk, os⟩ _ mb I.kIn hlim hgl hbn hb2 (by have := hr.dp; omega) fun h' tk' e d tc M => mkp_of T.toErr I M (fun f => relO_0 f) h)
end
end L2

set_option Elab.async false
set_option linter.all false
set_option maxRecDepth 100000
set_option maxHeartbeats 4000000
/-! Ox3: errors as data; what raises; promises one by one. -/
namespace Od
open PySem L2
/-- an error: its class, its fields -/
structure Xc where
  c : Str
  ns : List Str
  ds : List D
inductive Out where
  | ok (d : D)
  | err (x : Xc)
def RX (K : PySem.W.Frag) (mg : Str → Option Value) (M : Addr → Prop) (H : Hp) (cls : Value) (d : Option Addr) (x : Xc) : Prop :=
  ∃ (C dd : Addr) (xs : List V), mg x.c = some (.ref C) ∧ cls = .ref C ∧ d = some dd ∧ ¬ M dd ∧ H dd = some (.xd (x.ns.zip xs)) ∧ x.ns.length = xs.length ∧ Rs K mg M H xs x.ds
theorem RX.ext {K : PySem.W.Frag} {mg : Str → Option Value} {M M' : Addr → Prop} {H H' : Hp} {cls : Value} {d : Option Addr} {x : Xc} (k : ∀ a o, ¬ M a → H a = some o → H' a = some o) (m : ∀ a, ¬ M a → H a ≠ none → ¬ M' a) (r : RX K mg M H cls d x) : RX K mg M' H' cls d x := by
  obtain ⟨C, dd, xs, h1, h2, h3, h4, h5, h6, h7⟩ := r
  exact ⟨C, dd, xs, h1, h2, h3, m _ h4 (by rw [h5]; simp), k _ _ h4 h5, h6, Rs.ext k m _ h7⟩
/-- what is wanted of an outcome -/
def OutK (K : PySem.W.Frag) (mg : Str → Option Value) (M : Addr → Prop) (A0 : List Addr) (H0 : Hp) (c2 : Cs) (Q : VK) (E : XK) : Out → Prop
  | .ok d => ∀ v H', (∀ a, M a → H' a ≠ none) → Ext A0 H0 H' → (∀ p ∈ c2, M p.1 ∧ Cell K mg M H' p.1 p.2) → R K mg M H' v d → Q v H'
  | .err x => ∀ cls d H', (∀ a, M a → H' a ≠ none) → Ext A0 H0 H' → (∀ p ∈ c2, M p.1 ∧ Cell K mg M H' p.1 p.2) → RX K mg M H' cls d x → E cls d H'
/-- a promise of one call -/
def outSp (K : PySem.W.Frag) (mg : Str → Option Value) (args : List D) (cz : Cs) (res : Out) (cz' : Cs) : Sp := fun vs H Q E =>
  ∃ M : Addr → Prop, (∀ a, M a → H a ≠ none) ∧ Rs K mg M H vs args ∧ (∀ p ∈ cz, M p.1 ∧ Cell K mg M H p.1 p.2) ∧ (dom cz).Nodup ∧ OutK K mg M (dom cz) H cz' Q E res
/-- the same of a maker: the new instance behind it -/
inductive MOut where
  | ok (ns : List Str) (ds : List D)
  | err (x : Xc)
def makSp (K : PySem.W.Frag) (mg : Str → Option Value) (c : Str) (args : List D) (res : MOut) : Sp := fun vs H Q E =>
  ∃ (M : Addr → Prop) (x C dx : Addr) (rest : List V), vs = .ref x :: rest ∧ mg c = some (.ref C) ∧ H x = some (.ins C dx []) ∧ ¬ M x ∧ (∀ a, M a → H a ≠ none) ∧ Rs K mg (fun a => M a ∨ a = x) H rest args ∧
    match res with
    | .ok ns ds => ∀ H', (∀ a, M a → H' a ≠ none) → Ext [x] H H' → R K mg M H' (.ref x) (.obj c ns ds) → Q .non H'
    | .err z => ∀ cls d H', (∀ a, M a → H' a ≠ none) → Ext [x] H H' → RX K mg M H' cls d z → E cls d H'
section
variable (P : Program) (w : World) (K : PySem.W.Frag) (mg : Str → Option Value) (base : Heap)
abbrev Fn (n : Str) (k : Nat) (args : List D) (cz : Cs) (res : Out) (cz' : Cs) : Prop := Dfn P w K mg base n k (outSp K mg args cz res cz')
abbrev Me (c m : Str) (k : Nat) (args : List D) (cz : Cs) (res : Out) (cz' : Cs) : Prop := Mth P w K mg base c m k (outSp K mg args cz res cz')
abbrev Sm (c m : Str) (k : Nat) (args : List D) (cz : Cs) (res : Out) (cz' : Cs) : Prop := Stc P w K mg base c m k (outSp K mg args cz res cz')
abbrev Pr (c m : Str) (k : Nat) (args : List D) (res : Out) : Prop := Prp P w K mg base c m k (outSp K mg args [] res [])
abbrev Du (c m : Str) (k : Nat) (args : List D) (res : Out) : Prop := Dun P w K mg base c m k (outSp K mg args [] res [])
abbrev Ma (c : Str) (k : Nat) (args : List D) (res : MOut) : Prop := Mkr P w K mg base c k (makSp K mg c args res)
end
section
variable {P : Program} {w : World} {K : PySem.W.Frag} {mg : Str → Option Value} {base : Heap} {n c m : Str} {k : Nat} {ι : Type} {pre : ι → Prop} {args : ι → List D} {cz cz' : ι → Cs} {res : ι → D}
theorem out_of_fn {i : ι} (hp : pre i) : ∀ vs H Q E, outSp K mg (args i) (cz i) (.ok (res i)) (cz' i) vs H Q E → fnSp K mg pre args cz res cz' vs H Q E := fun vs H Q E ⟨M, h1, h2, h3, h4, h5⟩ => ⟨M, i, hp, h1, h2, h3, h4, h5⟩
theorem Dfn.imp {sp sp' : Sp} (F : Dfn P w K mg base n k sp) (h : ∀ vs H Q E, sp' vs H Q E → sp vs H Q E) : Dfn P w K mg base n k sp' := by
  obtain ⟨f, a, b, F⟩ := F.ex
  exact ⟨f, a, b, F.imp h⟩
theorem Mth.imp {sp sp' : Sp} (F : Mth P w K mg base c m k sp) (h : ∀ vs H Q E, sp' vs H Q E → sp vs H Q E) : Mth P w K mg base c m k sp' := by
  obtain ⟨C, f, a, b, d, F⟩ := F.ex
  exact ⟨C, f, a, b, d, F.imp h⟩
theorem Stc.imp {sp sp' : Sp} (F : Stc P w K mg base c m k sp) (h : ∀ vs H Q E, sp' vs H Q E → sp vs H Q E) : Stc P w K mg base c m k sp' := by
  obtain ⟨C, mc, g, a, b, d, e, F⟩ := F.ex
  exact ⟨C, mc, g, a, b, d, e, F.imp h⟩
theorem Prp.imp {sp sp' : Sp} (F : Prp P w K mg base c m k sp) (h : ∀ vs H Q E, sp' vs H Q E → sp vs H Q E) : Prp P w K mg base c m k sp' := by
  obtain ⟨C, p, g, a, b, d, F⟩ := F.ex
  exact ⟨C, p, g, a, b, d, F.imp h⟩
theorem Dun.imp {sp sp' : Sp} (F : Dun P w K mg base c m k sp) (h : ∀ vs H Q E, sp' vs H Q E → sp vs H Q E) : Dun P w K mg base c m k sp' := by
  obtain ⟨C, f, a, b, d, F⟩ := F.ex
  exact ⟨C, f, a, b, d, F.imp h⟩
theorem Mkr.imp {sp sp' : Sp} (F : Mkr P w K mg base c k sp) (h : ∀ vs H Q E, sp' vs H Q E → sp vs H Q E) : Mkr P w K mg base c k sp' := by
  obtain ⟨C, f, a, b, F⟩ := F.ex
  exact ⟨C, f, a, b, F.imp h⟩
theorem Dfn.up' {sp : Sp} {j : Nat} (F : Dfn P w K mg base n k sp) (h : k ≤ j) : Dfn P w K mg base n j sp := by
  obtain ⟨f, a, b, F⟩ := F.ex
  exact ⟨f, a, b, F.mono h⟩
theorem Mth.up' {sp : Sp} {j : Nat} (F : Mth P w K mg base c m k sp) (h : k ≤ j) : Mth P w K mg base c m j sp := by
  obtain ⟨C, f, a, b, d, F⟩ := F.ex
  exact ⟨C, f, a, b, d, F.mono h⟩
theorem Stc.up' {sp : Sp} {j : Nat} (F : Stc P w K mg base c m k sp) (h : k ≤ j) : Stc P w K mg base c m j sp := by
  obtain ⟨C, mc, g, a, b, d, e, F⟩ := F.ex
  exact ⟨C, mc, g, a, b, d, e, F.mono h⟩
theorem Prp.up' {sp : Sp} {j : Nat} (F : Prp P w K mg base c m k sp) (h : k ≤ j) : Prp P w K mg base c m j sp := by
  obtain ⟨C, p, g, a, b, d, F⟩ := F.ex
  exact ⟨C, p, g, a, b, d, F.mono h⟩
theorem Dun.up' {sp : Sp} {j : Nat} (F : Dun P w K mg base c m k sp) (h : k ≤ j) : Dun P w K mg base c m j sp := by
  obtain ⟨C, f, a, b, d, F⟩ := F.ex
  exact ⟨C, f, a, b, d, F.mono h⟩
theorem Mkr.up' {sp : Sp} {j : Nat} (F : Mkr P w K mg base c k sp) (h : k ≤ j) : Mkr P w K mg base c j sp := by
  obtain ⟨C, f, a, b, F⟩ := F.ex
  exact ⟨C, f, a, b, F.mono h⟩
theorem mak_of_mk {ns : List Str} {dz : ι → List D} {i : ι} (hp : pre i) : ∀ vs H Q E, makSp K mg c (args i) (.ok ns (dz i)) vs H Q E → mkSp K mg c pre args ns dz vs H Q E := fun vs H Q E ⟨M, x, C, dx, rest, h1, h2, h3, h4, h5, h6, h7⟩ => ⟨M, i, x, C, dx, rest, hp, h1, h2, h3, h4, h5, h6, h7⟩
/-- old promises, one by one -/
theorem Dfn.at (F : Dfn P w K mg base n k (fnSp K mg pre args cz res cz')) (i : ι) (hp : pre i) : Fn P w K mg base n k (args i) (cz i) (.ok (res i)) (cz' i) := F.imp (out_of_fn hp)
theorem Mth.at (F : Mth P w K mg base c m k (fnSp K mg pre args cz res cz')) (i : ι) (hp : pre i) : Me P w K mg base c m k (args i) (cz i) (.ok (res i)) (cz' i) := F.imp (out_of_fn hp)
theorem Stc.at (F : Stc P w K mg base c m k (fnSp K mg pre args cz res cz')) (i : ι) (hp : pre i) : Sm P w K mg base c m k (args i) (cz i) (.ok (res i)) (cz' i) := F.imp (out_of_fn hp)
theorem Prp.at (F : Prp P w K mg base c m k (puSp K mg pre args res)) (i : ι) (hp : pre i) : Pr P w K mg base c m k (args i) (.ok (res i)) := F.imp (out_of_fn (cz := fun _ => []) (cz' := fun _ => []) hp)
theorem Dun.at (F : Dun P w K mg base c m k (puSp K mg pre args res)) (i : ι) (hp : pre i) : Du P w K mg base c m k (args i) (.ok (res i)) := F.imp (out_of_fn (cz := fun _ => []) (cz' := fun _ => []) hp)
theorem Mkr.at {ns : List Str} {dz : ι → List D} (F : Mkr P w K mg base c k (mkSp K mg c pre args ns dz)) (i : ι) (hp : pre i) : Ma P w K mg base c k (args i) (.ok ns (dz i)) := F.imp (mak_of_mk hp)
/-- .. and new promises as old ones -/
theorem fn_of_out {a : List D} {z z' : Cs} {r : D} : ∀ vs H Q E, fnSp K mg (fun _ : Unit => True) (fun _ => a) (fun _ => z) (fun _ => r) (fun _ => z') vs H Q E → outSp K mg a z (.ok r) z' vs H Q E := fun vs H Q E ⟨M, _, _, h1, h2, h3, h4, h5⟩ => ⟨M, h1, h2, h3, h4, h5⟩
theorem mk_of_mak {a : List D} {ns : List Str} {ds : List D} : ∀ vs H Q E, mkSp K mg c (fun _ : Unit => True) (fun _ => a) ns (fun _ => ds) vs H Q E → makSp K mg c a (.ok ns ds) vs H Q E := fun vs H Q E ⟨M, _, x, C, dx, rest, _, h1, h2, h3, h4, h5, h6, h7⟩ => ⟨M, x, C, dx, rest, h1, h2, h3, h4, h5, h6, h7⟩
end
/-! ### what raises -/
structure EX (X : Cx) (M : Addr → Prop) (e : DE) (cs : Cs) (ex : Expr) (x : Xc) (cs' : Cs) : Prop where
  dm : dom cs' = dom cs
  k : ∀ (σ : L2.St) (H : Hp) (W : WX) (Q : VK), Takes X W → Sit X.K X.mg M σ H e cs → (∀ cls d H', Sit X.K X.mg M σ H' e cs' → Ext (dom cs) H H' → RX X.K X.mg M H' cls d x → W cls d σ H') → wE X ex σ H Q
structure XA (X : Cx) (M : Addr → Prop) (e : DE) (cs : Cs) (es : List Expr) (x : Xc) (cs' : Cs) : Prop where
  dm : dom cs' = dom cs
  k : ∀ (σ : L2.St) (H : Hp) (W : WX) (Q : List V → Hp → Prop), Takes X W → Sit X.K X.mg M σ H e cs → (∀ cls d H', Sit X.K X.mg M σ H' e cs' → Ext (dom cs) H H' → RX X.K X.mg M H' cls d x → W cls d σ H') → wA X es σ H Q
section
variable {X : Cx} {CX : CXT} {k : Nat} {f : Addr} {sp : Sp} {x m : Str} {p pos apos : Pos} {ex o : Expr} {es : List Expr} {t : TA} {ta : TE}
theorem run_fnRS {pins : List (Addr × Obj)} {σ : L2.St} {H : Hp} {s : Shared} {E : XK} {Q : VK} {us : List Value} {vs : List V} (F : FnR X.prog X.w X.K X.mg X.base CX k f sp) (hr : Room k X.A) (hx : PassesAt CX X σ E) (I : Inv X pins σ H s) (r : Vals vs us) (h : sp vs H Q E) :
    codeAny (model X.prog X.w) X.A (.call (.ref f) ⟨us, []⟩) (fun r s' => match r with | .ok (.ret v) => EP X pins σ Q v s' | .ok _ => False | .error e => X.xe e s') s := by
  refine codeAny_mono (F X.A X.stack s H us vs Q E hr I.env0 r h) fun r s' hq => ?_
  cases r with
  | error e => exact hx pins H s e s' I hq
  | ok fl => cases fl with
    | ret u => exact I.after hq
    | _ => exact False.elim hq
theorem pe_callRS {E : L2.St → XK} (F : FnR X.prog X.w X.K X.mg X.base CX k f sp) (hr : Room k X.A) (hg : Gl X x) (hm : X.mg x = some (.ref f)) (hk : PySem.W.keepIn X.K (.ref f) = true) (hx : ∀ σ, PassesAt CX X σ (E σ)) (ha : PA X (ex :: es) t)
    (hdb : (x == ("__debug__" : Str)) = false) (he : starEach (ex :: es) X.env = (false, eval ex X.env) :: starEach es X.env) (hpl : (backTo pos (starEach es X.env)).any (·.1) = false) :
    PE X (.Call (.Name x p) (ex :: es) [] pos) (fun σ H Q => t σ H fun vs H1 => sp vs H1 Q (E σ)) := by
  refine ⟨fun pins s σ H Q I h => wpAny_Call_Name_kw (ld_glob I hg hm ?_ hdb)⟩
  exact PySem.W.callWith_K (h₀ := X.base) I.ok.mod.kin hk (thn (ha.run pos pins s σ H _ I h) fun us s1 ⟨vs, H1, I1, r, q⟩ => ⟨I1.kIn, wpAny_call (run_fnRS F hr (hx σ) I1 r q)⟩) he hpl
theorem pe_callRS0 {E : L2.St → XK} (F : FnR X.prog X.w X.K X.mg X.base CX k f sp) (hr : Room k X.A) (hg : Gl X x) (hm : X.mg x = some (.ref f)) (hk : PySem.W.keepIn X.K (.ref f) = true) (hx : ∀ σ, PassesAt CX X σ (E σ)) (hdb : (x == ("__debug__" : Str)) = false) :
    PE X (.Call (.Name x p) [] [] pos) (fun σ H Q => sp [] H Q (E σ)) := by
  refine ⟨fun pins s σ H Q I h => wpAny_Call_Name_kw (ld_glob I hg hm ?_ hdb)⟩
  exact PySem.W.callWith_K0 I.kIn hk (wpAny_call (run_fnRS (us := []) F hr (hx σ) I .nil h))
theorem pe_methRS {E : L2.St → XK} {C : Addr} {pl : Sem Bool} (he : PE X o ta) (c : Cls X.K C) (hm : Meth X.K C m f) (F : FnR X.prog X.w X.K X.mg X.base CX k f sp) (hr : Room k X.A) (hx : ∀ σ, PassesAt CX X σ (E σ)) (ha : PA X (ex :: es) t)
    (hst : starEach (ex :: es) X.env = (false, eval ex X.env) :: starEach es X.env) (hpl : (backTo pos (starEach es X.env)).any (·.1) = false)
    (ht : eval (.Call (.Attribute o m apos) (ex :: es) [] pos) X.env = (do
      let ov ← eval o X.env
      standAt apos.atName
      let (f, first) ← holding [ov] (getMethod ov m pl)
      callWith pos f first (backTo pos (starEach (ex :: es) X.env)) (backToKw pos (keywordEach [] X.env)))) :
    PE X (.Call (.Attribute o m apos) (ex :: es) [] pos) (fun σ H Q => ta σ H fun x H1 => ∃ a dx fs, x = .ref a ∧ H1 a = some (.ins C dx fs) ∧ fs.lookup m = none ∧ t σ H1 fun vs H2 => sp (x :: vs) H2 Q (E σ)) := by
  refine ⟨fun pins s σ H Q I h => PySem.W.methodCall_KW (pl := pl) (thn (he.run pins s σ H _ I h) fun u s1 ⟨x, H1, I1, rx, a, dx, fs, ex', ea, l, q⟩ => ?_) ht⟩
  subst ex'
  obtain rfl : u = Value.ref a := rx
  refine getmeth_ok I1 ea c hm l ?_
  exact PySem.W.callWith_K (first := [.ref a]) (h₀ := X.base) I1.ok.mod.kin hm.kp (thn (ha.run pos pins s1 σ H1 _ I1 q) fun us s3 ⟨vs, H2, I3, r, q2⟩ => ⟨I3.kIn, wpAny_call (run_fnRS (us := .ref a :: us) (vs := .ref a :: vs) F hr (hx σ) I3 (.cons rfl r) q2)⟩) hst hpl
end
end Od

set_option Elab.async false
set_option linter.all false
set_option maxRecDepth 100000
set_option maxHeartbeats 4000000
/-! Ox4: calls by single promises: e_.. they give, x_.. they raise. -/
namespace Od
open PySem L2
section
variable {X : Cx} {CX : CXT} {k : Nat} {f : Addr} {sp : Sp} {x m : Str} {p pos apos : Pos} {ex o : Expr} {es : List Expr} {t : TA} {ta : TE} {E : L2.St → XK}
theorem pe_methRS0 {C : Addr} {pl : Sem Bool} (he : PE X o ta) (c : Cls X.K C) (hm : Meth X.K C m f) (F : FnR X.prog X.w X.K X.mg X.base CX k f sp) (hr : Room k X.A) (hx : ∀ σ, PassesAt CX X σ (E σ))
    (ht : eval (.Call (.Attribute o m apos) [] [] pos) X.env = (do
      let ov ← eval o X.env
      standAt apos.atName
      let (f, first) ← holding [ov] (getMethod ov m pl)
      callWith pos f first (backTo pos (starEach [] X.env)) (backToKw pos (keywordEach [] X.env)))) :
    PE X (.Call (.Attribute o m apos) [] [] pos) (fun σ H Q => ta σ H fun x H1 => ∃ a dx fs, x = .ref a ∧ H1 a = some (.ins C dx fs) ∧ fs.lookup m = none ∧ sp [x] H1 Q (E σ)) := by
  refine ⟨fun pins s σ H Q I h => PySem.W.methodCall_KW (pl := pl) (thn (he.run pins s σ H _ I h) fun u s1 ⟨x, H1, I1, rx, a, dx, fs, ex', ea, l, q⟩ => ?_) ht⟩
  subst ex'
  obtain rfl : u = Value.ref a := rx
  refine getmeth_ok I1 ea c hm l ?_
  exact PySem.W.callWith_K0 (first := [.ref a]) I1.kIn hm.kp (wpAny_call (run_fnRS (us := [.ref a]) (vs := [.ref a]) F hr (hx σ) I1 (.cons rfl .nil) q))
theorem pe_cstatS {C g : Addr} {mc : Value} {pl : Sem Bool} (he : PE X o ta) (r : ClX.CRead X.K C mc) (c : CStm X.K C mc m g) (hk : PySem.W.keepIn X.K (.ref g) = true) (F : FnR X.prog X.w X.K X.mg X.base CX k g sp) (hr : Room k X.A) (hx : ∀ σ, PassesAt CX X σ (E σ)) (ha : PA X (ex :: es) t)
    (hst : starEach (ex :: es) X.env = (false, eval ex X.env) :: starEach es X.env) (hpl : (backTo pos (starEach es X.env)).any (·.1) = false)
    (ht : eval (.Call (.Attribute o m apos) (ex :: es) [] pos) X.env = (do
      let ov ← eval o X.env
      standAt apos.atName
      let (f, first) ← holding [ov] (getMethod ov m pl)
      callWith pos f first (backTo pos (starEach (ex :: es) X.env)) (backToKw pos (keywordEach [] X.env)))) :
    PE X (.Call (.Attribute o m apos) (ex :: es) [] pos) (fun σ H Q => ta σ H fun x H1 => x = .ref C ∧ t σ H1 fun vs H2 => sp vs H2 Q (E σ)) := by
  refine ⟨fun pins s σ H Q I h => PySem.W.methodCall_KW (pl := pl) (thn (he.run pins s σ H _ I h) fun u s1 ⟨x, H1, I1, rx, ex', q⟩ => ?_) ht⟩
  subst ex'
  obtain rfl : u = Value.ref C := rx
  refine PySem.W.method_cls I1.kIn r.ga (getcst_ok I1 r c fun s2 I2 => ?_)
  exact PySem.W.callWith_K (first := []) (h₀ := X.base) I2.ok.mod.kin hk (thn (ha.run pos pins s2 σ H1 _ I2 q) fun us s3 ⟨vs, H2, I3, rv, q2⟩ => ⟨I3.kIn, wpAny_call (run_fnRS F hr (hx σ) I3 rv q2)⟩) hst hpl
theorem pe_cstatS0 {C g : Addr} {mc : Value} {pl : Sem Bool} (he : PE X o ta) (r : ClX.CRead X.K C mc) (c : CStm X.K C mc m g) (hk : PySem.W.keepIn X.K (.ref g) = true) (F : FnR X.prog X.w X.K X.mg X.base CX k g sp) (hr : Room k X.A) (hx : ∀ σ, PassesAt CX X σ (E σ))
    (ht : eval (.Call (.Attribute o m apos) [] [] pos) X.env = (do
      let ov ← eval o X.env
      standAt apos.atName
      let (f, first) ← holding [ov] (getMethod ov m pl)
      callWith pos f first (backTo pos (starEach [] X.env)) (backToKw pos (keywordEach [] X.env)))) :
    PE X (.Call (.Attribute o m apos) [] [] pos) (fun σ H Q => ta σ H fun x H1 => x = .ref C ∧ sp [] H1 Q (E σ)) := by
  refine ⟨fun pins s σ H Q I h => PySem.W.methodCall_KW (pl := pl) (thn (he.run pins s σ H _ I h) fun u s1 ⟨x, H1, I1, rx, ex', q⟩ => ?_) ht⟩
  subst ex'
  obtain rfl : u = Value.ref C := rx
  refine PySem.W.method_cls I1.kIn r.ga (getcst_ok I1 r c fun s2 I2 => ?_)
  exact PySem.W.callWith_K0 (first := []) I2.kIn hk (wpAny_call (run_fnRS (us := []) F hr (hx σ) I2 .nil q))
/-- an instance in the making is forgotten where its __init__ raises -/
theorem run_makeRS {pins : List (Addr × Obj)} {σ : L2.St} {H : Hp} {s : Shared} {C : Addr} {Q : VK} {us : List Value} {vs : List V} (Mm : Mk X.K C f) (F : FnR X.prog X.w X.K X.mg X.base CX k f sp) (hr : Room (k + 1) X.A) (hx : PassesAt CX X σ (E σ)) (I : Inv X pins σ H s) (r : Vals vs us)
    (h : ∀ x dx, H x = none → H dx = none → dx ≠ x → sp (V.ref x :: vs) (upd (upd H dx (.own x)) x (.ins C dx [])) (fun v H2 => v = .non ∧ Q (.ref x) H2) (E σ)) : wpAny (model X.prog X.w) X.A (call (.ref C) us) (EP X pins σ Q) X.xe s := by
  have hq := h (s.heap.objs.size + 1) s.heap.objs.size (I.hok.fresh (Nat.le_succ _)) (I.hok.fresh (Nat.le_refl _)) (Nat.ne_of_lt (Nat.lt_succ_self _))
  have I2 := Inv.made (C := C) I
  have r2 : Vals (V.ref (s.heap.objs.size + 1) :: vs) (Value.ref (s.heap.objs.size + 1) :: us) := .cons rfl r
  refine wpAny_call (make_map (f := f) I.kIn Mm.makes Mm.init (beq_iff_eq.mp Mm.fn) (codeAny_mono (F _ X.stack _ _ (Value.ref (s.heap.objs.size + 1) :: us) _ _ (E σ) (hr.make C us []) (I2.env0.make C us []) r2 hq) fun r s' hq' => ?_))
  cases r with
  | error e => exact hx pins _ _ e s' I2 hq'
  | ok fl => cases fl with
    | ret u =>
      obtain ⟨v, H', I3, rv, ev, q3⟩ := I2.after hq'
      subst ev
      exact ⟨rv, ⟨V.ref (s.heap.objs.size + 1), H', I3, rfl, q3⟩⟩
    | _ => exact False.elim hq'
theorem pe_makeRS {C : Addr} (Mm : Mk X.K C f) (F : FnR X.prog X.w X.K X.mg X.base CX k f sp) (hr : Room (k + 1) X.A) (hg : Gl X x) (hm : X.mg x = some (.ref C)) (hx : ∀ σ, PassesAt CX X σ (E σ)) (ha : PA X (ex :: es) t) (hdb : (x == ("__debug__" : Str)) = false)
    (he : starEach (ex :: es) X.env = (false, eval ex X.env) :: starEach es X.env) (hpl : (backTo pos (starEach es X.env)).any (·.1) = false) : PE X (.Call (.Name x p) (ex :: es) [] pos) (fun σ H Q => t σ H fun vs H1 => ∀ xa dx, H1 xa = none → H1 dx = none → dx ≠ xa → sp (V.ref xa :: vs) (upd (upd H1 dx (.own xa)) xa (.ins C dx [])) (fun v H2 => v = .non ∧ Q (.ref xa) H2) (E σ)) := by
  refine ⟨fun pins s σ H Q I h => wpAny_Call_Name_kw (ld_glob I hg hm ?_ hdb)⟩
  exact PySem.W.callWith_K (h₀ := X.base) I.ok.mod.kin Mm.kp (thn (ha.run pos pins s σ H _ I h) fun us s1 ⟨vs, H1, I1, r, q⟩ => ⟨I1.kIn, run_makeRS Mm F hr (hx σ) I1 r q⟩) he hpl
theorem pe_makeRS0 {C : Addr} (Mm : Mk X.K C f) (F : FnR X.prog X.w X.K X.mg X.base CX k f sp) (hr : Room (k + 1) X.A) (hg : Gl X x) (hm : X.mg x = some (.ref C)) (hx : ∀ σ, PassesAt CX X σ (E σ)) (hdb : (x == ("__debug__" : Str)) = false) :
    PE X (.Call (.Name x p) [] [] pos) (fun σ H Q => ∀ xa dx, H xa = none → H dx = none → dx ≠ xa → sp [V.ref xa] (upd (upd H dx (.own xa)) xa (.ins C dx [])) (fun v H2 => v = .non ∧ Q (.ref xa) H2) (E σ)) := by
  refine ⟨fun pins s σ H Q I h => wpAny_Call_Name_kw (ld_glob I hg hm ?_ hdb)⟩
  exact PySem.W.callWith_K0 I.kIn Mm.kp (run_makeRS (us := []) Mm F hr (hx σ) I .nil h)
end
/-- cz within cs1 has become cz' within cs2 -/
structure Sw (cz cz' cs1 cs2 : Cs) : Prop where
  sub : ∀ q ∈ cz, q ∈ cs1
  dm : dom cs2 = dom cs1
  nd : (dom cs1).Nodup → (dom cz).Nodup
  rest : (dom cs1).Nodup → ∀ q ∈ cs2, q ∈ cz' ∨ (q ∈ cs1 ∧ q.1 ∉ dom cz)
theorem sw0 {cs : Cs} : Sw [] [] cs cs := ⟨by simp, rfl, by simp, fun _ q hq => .inr ⟨hq, by simp⟩⟩
theorem sw1 {ad : Addr} {c c' : MC} {cs1 cs2 : Cs} (u : Upd1 ad c c' cs1 cs2) : Sw [(ad, c)] [(ad, c')] cs1 cs2 :=
  ⟨by simpa using u.mem, u.dm, by simp, fun nd q hq => (u.of nd q hq).elim (fun z => .inl (by simp [z])) fun z => .inr ⟨z.1, by simpa using z.2⟩⟩
/-- all of them -/
theorem swA {cs cs' : Cs} (h : dom cs' = dom cs) : Sw cs cs' cs cs' := ⟨fun _ h => h, h, fun h => h, fun _ q hq => .inl hq⟩
theorem Upd1.refl {ad : Addr} {c : MC} : ∀ {cs : Cs}, (ad, c) ∈ cs → Upd1 ad c c cs cs
  | (b, d) :: r, h => by
    rcases List.mem_cons.mp h with e | e
    · cases e; exact .here
    · exact .there (Upd1.refl e)
section
variable {X : Cx} {M : Addr → Prop} {e : DE} {cs cs1 cs2 cs3 : Cs} {pos p pos' apos : Pos} {a b c ex o : Expr} {es : List Expr} {d y z : D} {ds gs args : List D} {n m cn : Str} {ns : List Str} {k j : Nat} {cz cz' : Cs} {x : Xc}
theorem out_use {σ : L2.St} {H : Hp} {Q : VK} {E : XK} {vs : List V} (S : Sit X.K X.mg M σ H e cs1) (r : Rs X.K X.mg M H vs args) (w : Sw cz cz' cs1 cs2)
    (k : ∀ v H', Sit X.K X.mg M σ H' e cs2 → Ext (dom cs1) H H' → R X.K X.mg M H' v d → Q v H') : outSp X.K X.mg args cz (.ok d) cz' vs H Q E := by
  refine ⟨M, S.mt, r, fun q hq => S.cel q (w.sub q hq), w.nd S.nd, fun v H' mt xt cl rv => ?_⟩
  have xt' : Ext (dom cs1) H H' := xt.mono fun a ha => by
    obtain ⟨q, hq, rfl⟩ := List.mem_map.mp ha
    exact List.mem_map_of_mem (w.sub q hq)
  refine k v H' (S.step w.dm xt' mt fun q hq => ?_) xt' rv
  rcases w.rest S.nd q hq with h | ⟨h, hn⟩
  · exact cl q h
  · exact ⟨(S.cel q h).1, (S.cel q h).2.ext (S.keeps xt') (fun _ n _ => n) fun u hu => xt _ u hu hn⟩
theorem err_use {σ : L2.St} {H : Hp} {Q : VK} {E : XK} {vs : List V} (S : Sit X.K X.mg M σ H e cs1) (r : Rs X.K X.mg M H vs args) (w : Sw cz cz' cs1 cs2)
    (k : ∀ cls d H', Sit X.K X.mg M σ H' e cs2 → Ext (dom cs1) H H' → RX X.K X.mg M H' cls d x → E cls d H') : outSp X.K X.mg args cz (.err x) cz' vs H Q E := by
  refine ⟨M, S.mt, r, fun q hq => S.cel q (w.sub q hq), w.nd S.nd, fun cls d H' mt xt cl rv => ?_⟩
  have xt' : Ext (dom cs1) H H' := xt.mono fun a ha => by
    obtain ⟨q, hq, rfl⟩ := List.mem_map.mp ha
    exact List.mem_map_of_mem (w.sub q hq)
  refine k cls d H' (S.step w.dm xt' mt fun q hq => ?_) xt' rv
  rcases w.rest S.nd q hq with h | ⟨h, hn⟩
  · exact cl q h
  · exact ⟨(S.cel q h).1, (S.cel q h).2.ext (S.keeps xt') (fun _ n _ => n) fun u hu => xt _ u hu hn⟩
/-- a maker's -/
theorem mak_ke {H : Hp} {xa dx C : Addr} (hx : H xa = none) (hdx : H dx = none) : ∀ a o, H a = some o → upd (upd H dx (.own xa)) xa (.ins C dx []) a = some o := fun a o h => by
  rw [upd_ne (ne_of_none h hx), upd_ne (ne_of_none h hdx)]; exact h
theorem mak_use {σ : L2.St} {H : Hp} {Q : VK} {C xa dx : Addr} {vs : List V} {E : XK} (hm : X.mg cn = some (.ref C)) (S : Sit X.K X.mg M σ H e cs1) (r : Rs X.K X.mg M H vs args) (hx : H xa = none) (hdx : H dx = none) (hne : dx ≠ xa)
    (k : ∀ v H', Sit X.K X.mg M σ H' e cs1 → Ext [] H H' → R X.K X.mg M H' v (.obj cn ns ds) → Q v H') : makSp X.K X.mg cn args (.ok ns ds) (V.ref xa :: vs) (upd (upd H dx (.own xa)) xa (.ins C dx [])) (fun v H2 => v = .non ∧ Q (.ref xa) H2) E := by
  have ke := mak_ke (C := C) hx hdx
  refine ⟨M, xa, C, dx, vs, rfl, hm, upd_same, new_m S.mt hx, fun a ma => ?_, Rs.ext (fun a o _ h => ke a o h) (fun a n h z => z.elim n fun z => h (z ▸ hx)) _ r, fun H' mt xt ro => ⟨rfl, ?_⟩⟩
  · cases q : H a with
    | none => exact absurd q (S.mt a ma)
    | some o => rw [ke a o q]; simp
  have xt' : Ext [] H H' := fun a o h _ => xt a o (ke a o h) (by simpa using ne_of_none h hx)
  exact k _ H' (S.ex xt') xt' ro
theorem mak_err {σ : L2.St} {H : Hp} {Q : VK} {C xa dx : Addr} {vs : List V} {E : XK} (hm : X.mg cn = some (.ref C)) (S : Sit X.K X.mg M σ H e cs1) (r : Rs X.K X.mg M H vs args) (hx : H xa = none) (hdx : H dx = none) (hne : dx ≠ xa)
    (k : ∀ cls d H', Sit X.K X.mg M σ H' e cs1 → Ext [] H H' → RX X.K X.mg M H' cls d x → E cls d H') : makSp X.K X.mg cn args (.err x) (V.ref xa :: vs) (upd (upd H dx (.own xa)) xa (.ins C dx [])) Q E := by
  have ke := mak_ke (C := C) hx hdx
  refine ⟨M, xa, C, dx, vs, rfl, hm, upd_same, new_m S.mt hx, fun a ma => ?_, Rs.ext (fun a o _ h => ke a o h) (fun a n h z => z.elim n fun z => h (z ▸ hx)) _ r, fun cls d H' mt xt ro => ?_⟩
  · cases q : H a with
    | none => exact absurd q (S.mt a ma)
    | some o => rw [ke a o q]; simp
  have xt' : Ext [] H H' := fun a o h _ => xt a o (ke a o h) (by simpa using ne_of_none h hx)
  exact k cls d H' (S.ex xt') xt' ro
theorem e_fn (F : Fn X.prog X.w X.K X.mg X.base n k ds cz (.ok d) cz') (hr : Room k X.A) (ha : EA X M e cs (a :: es) ds cs1) (w : Sw cz cz' cs1 cs2) (hg : Gl X n := by rfl) (hdb : (n == ("__debug__" : Str)) = false := by decide)
    (he : starEach (a :: es) X.env = (false, eval a X.env) :: starEach es X.env := by rfl) (hpl : (backTo pos (starEach es X.env)).any (·.1) = false := by rfl) : EE X M e cs (.Call (.Name n p) (a :: es) [] pos) d cs2 where
  dm := w.dm.trans ha.dm
  k := fun σ H Q S k => by
    obtain ⟨f, hm, hk, F⟩ := F.ex
    exact we_of (pe_callR (E := E0) F hr hg hm hk passL pa_w hdb he hpl) (ha.k σ H _ S fun vs H1 S1 x1 r1 => out_use S1 r1 w fun v H' S2 x2 r2 => k v H' S2 (x1.trans (by rw [← ha.dm]; exact x2)) r2)
theorem x_fn (F : Fn X.prog X.w X.K X.mg X.base n k ds cz (.err x) cz') (hr : Room k X.A) (ha : EA X M e cs (a :: es) ds cs1) (w : Sw cz cz' cs1 cs2) (hg : Gl X n := by rfl) (hdb : (n == ("__debug__" : Str)) = false := by decide)
    (he : starEach (a :: es) X.env = (false, eval a X.env) :: starEach es X.env := by rfl) (hpl : (backTo pos (starEach es X.env)).any (·.1) = false := by rfl) : EX X M e cs (.Call (.Name n p) (a :: es) [] pos) x cs2 where
  dm := w.dm.trans ha.dm
  k := fun σ H W Q tk S k => by
    obtain ⟨f, hm, hk, F⟩ := F.ex
    exact we_of (pe_callRS (E := WE W) F hr hg hm hk (passAt tk) pa_w hdb he hpl) (ha.k σ H _ S fun vs H1 S1 x1 r1 => err_use S1 r1 w fun cls d H' S2 x2 r2 => k cls d H' S2 (x1.trans (by rw [← ha.dm]; exact x2)) r2)
theorem e_fn0 (F : Fn X.prog X.w X.K X.mg X.base n k [] cz (.ok d) cz') (hr : Room k X.A) (w : Sw cz cz' cs cs2) (hg : Gl X n := by rfl) (hdb : (n == ("__debug__" : Str)) = false := by decide) : EE X M e cs (.Call (.Name n p) [] [] pos) d cs2 where
  dm := w.dm
  k := fun σ H Q S k => by
    obtain ⟨f, hm, hk, F⟩ := F.ex
    exact we_of (pe_callR0 (E := E0) F hr hg hm hk passL hdb) (out_use S Rs.nil w k)
theorem x_fn0 (F : Fn X.prog X.w X.K X.mg X.base n k [] cz (.err x) cz') (hr : Room k X.A) (w : Sw cz cz' cs cs2) (hg : Gl X n := by rfl) (hdb : (n == ("__debug__" : Str)) = false := by decide) : EX X M e cs (.Call (.Name n p) [] [] pos) x cs2 where
  dm := w.dm
  k := fun σ H W Q tk S k => by
    obtain ⟨f, hm, hk, F⟩ := F.ex
    exact we_of (pe_callRS0 (E := WE W) F hr hg hm hk (passAt tk) hdb) (err_use S Rs.nil w k)
theorem e_me {pl : Sem Bool} (F : Me X.prog X.w X.K X.mg X.base cn m k (.obj cn ns gs :: ds) cz (.ok d) cz') (hr : Room k X.A) (ho : EE X M e cs o (.obj cn ns gs) cs1) (ha : EA X M e cs1 (a :: es) ds cs2) (w : Sw cz cz' cs2 cs3) (hnm : m ∉ ns := by decide +kernel)
    (hst : starEach (a :: es) X.env = (false, eval a X.env) :: starEach es X.env := by rfl) (hpl : (backTo pos (starEach es X.env)).any (·.1) = false := by rfl)
    (ht : eval (.Call (.Attribute o m apos) (a :: es) [] pos) X.env = (do
      let ov ← eval o X.env
      standAt apos.atName
      let (f, first) ← holding [ov] (getMethod ov m pl)
      callWith pos f first (backTo pos (starEach (a :: es) X.env)) (backToKw pos (keywordEach [] X.env))) := by rfl) : EE X M e cs (.Call (.Attribute o m apos) (a :: es) [] pos) d cs3 where
  dm := w.dm.trans (ha.dm.trans ho.dm)
  k := fun σ H Q S k => by
    obtain ⟨C, f, hm, hc, hmt, F⟩ := F.ex
    refine we_of (pe_methR (E := E0) pe_w hc hmt F hr passL pa_w hst hpl ht) (ho.k σ H _ S fun v H1 S1 x1 r1 => ?_)
    · have r1' := r1
      obtain ⟨ad, C', dx, xs, rfl, _, hm', hob, hl, rs⟩ := r_obj r1
      rw [hm] at hm'; cases hm'
      refine ⟨ad, dx, _, rfl, hob, zip_lookup_none hnm, ha.k σ H1 _ S1 fun vs H2 S2 x2 r2 => out_use S2 (.cons (S1.r x2 r1') r2) w fun v H' S3 x3 r3 => k v H' S3 ((x1.trans (by rw [← ho.dm]; exact x2)).trans (by rw [← ho.dm, ← ha.dm]; exact x3)) r3⟩
theorem e_me0 {pl : Sem Bool} (F : Me X.prog X.w X.K X.mg X.base cn m k [.obj cn ns gs] cz (.ok d) cz') (hr : Room k X.A) (ho : EE X M e cs o (.obj cn ns gs) cs1) (w : Sw cz cz' cs1 cs3) (hnm : m ∉ ns := by decide +kernel)
    (ht : eval (.Call (.Attribute o m apos) [] [] pos) X.env = (do
      let ov ← eval o X.env
      standAt apos.atName
      let (f, first) ← holding [ov] (getMethod ov m pl)
      callWith pos f first (backTo pos (starEach [] X.env)) (backToKw pos (keywordEach [] X.env))) := by rfl) : EE X M e cs (.Call (.Attribute o m apos) [] [] pos) d cs3 where
  dm := w.dm.trans ho.dm
  k := fun σ H Q S k => by
    obtain ⟨C, f, hm, hc, hmt, F⟩ := F.ex
    refine we_of (pe_methR0 (E := E0) pe_w hc hmt F hr passL ht) (ho.k σ H _ S fun v H1 S1 x1 r1 => ?_)
    · have r1' := r1
      obtain ⟨ad, C', dx, xs, rfl, _, hm', hob, hl, rs⟩ := r_obj r1
      rw [hm] at hm'; cases hm'
      refine ⟨ad, dx, _, rfl, hob, zip_lookup_none hnm, out_use S1 (.cons r1' .nil) w fun v H' S3 x3 r3 => k v H' S3 (x1.trans (by rw [← ho.dm]; exact x3)) r3⟩
theorem x_me {pl : Sem Bool} (F : Me X.prog X.w X.K X.mg X.base cn m k (.obj cn ns gs :: ds) cz (.err x) cz') (hr : Room k X.A) (ho : EE X M e cs o (.obj cn ns gs) cs1) (ha : EA X M e cs1 (a :: es) ds cs2) (w : Sw cz cz' cs2 cs3) (hnm : m ∉ ns := by decide +kernel)
    (hst : starEach (a :: es) X.env = (false, eval a X.env) :: starEach es X.env := by rfl) (hpl : (backTo pos (starEach es X.env)).any (·.1) = false := by rfl)
    (ht : eval (.Call (.Attribute o m apos) (a :: es) [] pos) X.env = (do
      let ov ← eval o X.env
      standAt apos.atName
      let (f, first) ← holding [ov] (getMethod ov m pl)
      callWith pos f first (backTo pos (starEach (a :: es) X.env)) (backToKw pos (keywordEach [] X.env))) := by rfl) : EX X M e cs (.Call (.Attribute o m apos) (a :: es) [] pos) x cs3 where
  dm := w.dm.trans (ha.dm.trans ho.dm)
  k := fun σ H W Q tk S k => by
    obtain ⟨C, f, hm, hc, hmt, F⟩ := F.ex
    refine we_of (pe_methRS (E := WE W) pe_w hc hmt F hr (passAt tk) pa_w hst hpl ht) (ho.k σ H _ S fun v H1 S1 x1 r1 => ?_)
    · have r1' := r1
      obtain ⟨ad, C', dx, xs, rfl, _, hm', hob, hl, rs⟩ := r_obj r1
      rw [hm] at hm'; cases hm'
      refine ⟨ad, dx, _, rfl, hob, zip_lookup_none hnm, ha.k σ H1 _ S1 fun vs H2 S2 x2 r2 => err_use S2 (.cons (S1.r x2 r1') r2) w fun cls d H' S3 x3 r3 => k cls d H' S3 ((x1.trans (by rw [← ho.dm]; exact x2)).trans (by rw [← ho.dm, ← ha.dm]; exact x3)) r3⟩
theorem x_me0 {pl : Sem Bool} (F : Me X.prog X.w X.K X.mg X.base cn m k [.obj cn ns gs] cz (.err x) cz') (hr : Room k X.A) (ho : EE X M e cs o (.obj cn ns gs) cs1) (w : Sw cz cz' cs1 cs3) (hnm : m ∉ ns := by decide +kernel)
    (ht : eval (.Call (.Attribute o m apos) [] [] pos) X.env = (do
      let ov ← eval o X.env
      standAt apos.atName
      let (f, first) ← holding [ov] (getMethod ov m pl)
      callWith pos f first (backTo pos (starEach [] X.env)) (backToKw pos (keywordEach [] X.env))) := by rfl) : EX X M e cs (.Call (.Attribute o m apos) [] [] pos) x cs3 where
  dm := w.dm.trans ho.dm
  k := fun σ H W Q tk S k => by
    obtain ⟨C, f, hm, hc, hmt, F⟩ := F.ex
    refine we_of (pe_methRS0 (E := WE W) pe_w hc hmt F hr (passAt tk) ht) (ho.k σ H _ S fun v H1 S1 x1 r1 => ?_)
    · have r1' := r1
      obtain ⟨ad, C', dx, xs, rfl, _, hm', hob, hl, rs⟩ := r_obj r1
      rw [hm] at hm'; cases hm'
      refine ⟨ad, dx, _, rfl, hob, zip_lookup_none hnm, err_use S1 (.cons r1' .nil) w fun cls d H' S3 x3 r3 => k cls d H' S3 (x1.trans (by rw [← ho.dm]; exact x3)) r3⟩
theorem e_mec {ad : Addr} {pl : Sem Bool} (F : Me X.prog X.w X.K X.mg X.base cn m k (.ref ad :: ds) cz (.ok d) cz') (hr : Room k X.A) (ho : EE X M e cs o (.ref ad) cs1) (hin : (ad, MC.obj cn ns gs) ∈ cs1) (ha : EA X M e cs1 (a :: es) ds cs2) (w : Sw cz cz' cs2 cs3) (hnm : m ∉ ns := by decide +kernel)
    (hst : starEach (a :: es) X.env = (false, eval a X.env) :: starEach es X.env := by rfl) (hpl : (backTo pos (starEach es X.env)).any (·.1) = false := by rfl)
    (ht : eval (.Call (.Attribute o m apos) (a :: es) [] pos) X.env = (do
      let ov ← eval o X.env
      standAt apos.atName
      let (f, first) ← holding [ov] (getMethod ov m pl)
      callWith pos f first (backTo pos (starEach (a :: es) X.env)) (backToKw pos (keywordEach [] X.env))) := by rfl) : EE X M e cs (.Call (.Attribute o m apos) (a :: es) [] pos) d cs3 where
  dm := w.dm.trans (ha.dm.trans ho.dm)
  k := fun σ H Q S k => by
    obtain ⟨C, f, hm, hc, hmt, F⟩ := F.ex
    refine we_of (pe_methR (E := E0) pe_w hc hmt F hr passL pa_w hst hpl ht) (ho.k σ H _ S fun v H1 S1 x1 r1 => ?_)
    · simp only [R] at r1
      subst r1
      obtain ⟨_, C', dx, xs, hm', hob, hl, rs⟩ := S1.cel _ hin
      rw [hm] at hm'; cases hm'
      refine ⟨ad, dx, _, rfl, hob, zip_lookup_none hnm, ha.k σ H1 _ S1 fun vs H2 S2 x2 r2 => out_use S2 (.cons (by simp [R]) r2) w fun v H' S3 x3 r3 => k v H' S3 ((x1.trans (by rw [← ho.dm]; exact x2)).trans (by rw [← ho.dm, ← ha.dm]; exact x3)) r3⟩
theorem e_mec0 {ad : Addr} {pl : Sem Bool} (F : Me X.prog X.w X.K X.mg X.base cn m k [.ref ad] cz (.ok d) cz') (hr : Room k X.A) (ho : EE X M e cs o (.ref ad) cs1) (hin : (ad, MC.obj cn ns gs) ∈ cs1) (w : Sw cz cz' cs1 cs3) (hnm : m ∉ ns := by decide +kernel)
    (ht : eval (.Call (.Attribute o m apos) [] [] pos) X.env = (do
      let ov ← eval o X.env
      standAt apos.atName
      let (f, first) ← holding [ov] (getMethod ov m pl)
      callWith pos f first (backTo pos (starEach [] X.env)) (backToKw pos (keywordEach [] X.env))) := by rfl) : EE X M e cs (.Call (.Attribute o m apos) [] [] pos) d cs3 where
  dm := w.dm.trans ho.dm
  k := fun σ H Q S k => by
    obtain ⟨C, f, hm, hc, hmt, F⟩ := F.ex
    refine we_of (pe_methR0 (E := E0) pe_w hc hmt F hr passL ht) (ho.k σ H _ S fun v H1 S1 x1 r1 => ?_)
    · simp only [R] at r1
      subst r1
      obtain ⟨_, C', dx, xs, hm', hob, hl, rs⟩ := S1.cel _ hin
      rw [hm] at hm'; cases hm'
      refine ⟨ad, dx, _, rfl, hob, zip_lookup_none hnm, out_use S1 (.cons (by simp [R]) .nil) w fun v H' S3 x3 r3 => k v H' S3 (x1.trans (by rw [← ho.dm]; exact x3)) r3⟩
theorem x_mec {ad : Addr} {pl : Sem Bool} (F : Me X.prog X.w X.K X.mg X.base cn m k (.ref ad :: ds) cz (.err x) cz') (hr : Room k X.A) (ho : EE X M e cs o (.ref ad) cs1) (hin : (ad, MC.obj cn ns gs) ∈ cs1) (ha : EA X M e cs1 (a :: es) ds cs2) (w : Sw cz cz' cs2 cs3) (hnm : m ∉ ns := by decide +kernel)
    (hst : starEach (a :: es) X.env = (false, eval a X.env) :: starEach es X.env := by rfl) (hpl : (backTo pos (starEach es X.env)).any (·.1) = false := by rfl)
    (ht : eval (.Call (.Attribute o m apos) (a :: es) [] pos) X.env = (do
      let ov ← eval o X.env
      standAt apos.atName
      let (f, first) ← holding [ov] (getMethod ov m pl)
      callWith pos f first (backTo pos (starEach (a :: es) X.env)) (backToKw pos (keywordEach [] X.env))) := by rfl) : EX X M e cs (.Call (.Attribute o m apos) (a :: es) [] pos) x cs3 where
  dm := w.dm.trans (ha.dm.trans ho.dm)
  k := fun σ H W Q tk S k => by
    obtain ⟨C, f, hm, hc, hmt, F⟩ := F.ex
    refine we_of (pe_methRS (E := WE W) pe_w hc hmt F hr (passAt tk) pa_w hst hpl ht) (ho.k σ H _ S fun v H1 S1 x1 r1 => ?_)
    · simp only [R] at r1
      subst r1
      obtain ⟨_, C', dx, xs, hm', hob, hl, rs⟩ := S1.cel _ hin
      rw [hm] at hm'; cases hm'
      refine ⟨ad, dx, _, rfl, hob, zip_lookup_none hnm, ha.k σ H1 _ S1 fun vs H2 S2 x2 r2 => err_use S2 (.cons (by simp [R]) r2) w fun cls d H' S3 x3 r3 => k cls d H' S3 ((x1.trans (by rw [← ho.dm]; exact x2)).trans (by rw [← ho.dm, ← ha.dm]; exact x3)) r3⟩
theorem x_mec0 {ad : Addr} {pl : Sem Bool} (F : Me X.prog X.w X.K X.mg X.base cn m k [.ref ad] cz (.err x) cz') (hr : Room k X.A) (ho : EE X M e cs o (.ref ad) cs1) (hin : (ad, MC.obj cn ns gs) ∈ cs1) (w : Sw cz cz' cs1 cs3) (hnm : m ∉ ns := by decide +kernel)
    (ht : eval (.Call (.Attribute o m apos) [] [] pos) X.env = (do
      let ov ← eval o X.env
      standAt apos.atName
      let (f, first) ← holding [ov] (getMethod ov m pl)
      callWith pos f first (backTo pos (starEach [] X.env)) (backToKw pos (keywordEach [] X.env))) := by rfl) : EX X M e cs (.Call (.Attribute o m apos) [] [] pos) x cs3 where
  dm := w.dm.trans ho.dm
  k := fun σ H W Q tk S k => by
    obtain ⟨C, f, hm, hc, hmt, F⟩ := F.ex
    refine we_of (pe_methRS0 (E := WE W) pe_w hc hmt F hr (passAt tk) ht) (ho.k σ H _ S fun v H1 S1 x1 r1 => ?_)
    · simp only [R] at r1
      subst r1
      obtain ⟨_, C', dx, xs, hm', hob, hl, rs⟩ := S1.cel _ hin
      rw [hm] at hm'; cases hm'
      refine ⟨ad, dx, _, rfl, hob, zip_lookup_none hnm, err_use S1 (.cons (by simp [R]) .nil) w fun cls d H' S3 x3 r3 => k cls d H' S3 (x1.trans (by rw [← ho.dm]; exact x3)) r3⟩
theorem e_sm {pl : Sem Bool} (F : Sm X.prog X.w X.K X.mg X.base cn m k ds cz (.ok d) cz') (hr : Room k X.A) (ha : EA X M e cs (a :: es) ds cs1) (w : Sw cz cz' cs1 cs2) (hg : Gl X cn := by rfl) (hdb : (cn == ("__debug__" : Str)) = false := by decide)
    (hst : starEach (a :: es) X.env = (false, eval a X.env) :: starEach es X.env := by rfl) (hpl : (backTo pos (starEach es X.env)).any (·.1) = false := by rfl)
    (ht : eval (.Call (.Attribute (.Name cn p) m apos) (a :: es) [] pos) X.env = (do
      let ov ← eval (.Name cn p) X.env
      standAt apos.atName
      let (f, first) ← holding [ov] (getMethod ov m pl)
      callWith pos f first (backTo pos (starEach (a :: es) X.env)) (backToKw pos (keywordEach [] X.env))) := by rfl) : EE X M e cs (.Call (.Attribute (.Name cn p) m apos) (a :: es) [] pos) d cs2 where
  dm := w.dm.trans ha.dm
  k := fun σ H Q S k => by
    obtain ⟨C, mc, g, hm, hrd, hv, hk, F⟩ := F.ex
    exact we_of (pe_cstat (E := E0) (pe_glob (v := .ref C) hg hm rfl hdb) hrd hv hk F hr passL pa_w hst hpl ht) ⟨rfl, ha.k σ H _ S fun vs H1 S1 x1 r1 => out_use S1 r1 w fun v H' S2 x2 r2 => k v H' S2 (x1.trans (by rw [← ha.dm]; exact x2)) r2⟩
theorem e_sm0 {pl : Sem Bool} (F : Sm X.prog X.w X.K X.mg X.base cn m k [] cz (.ok d) cz') (hr : Room k X.A) (w : Sw cz cz' cs cs2) (hg : Gl X cn := by rfl) (hdb : (cn == ("__debug__" : Str)) = false := by decide)
    (ht : eval (.Call (.Attribute (.Name cn p) m apos) [] [] pos) X.env = (do
      let ov ← eval (.Name cn p) X.env
      standAt apos.atName
      let (f, first) ← holding [ov] (getMethod ov m pl)
      callWith pos f first (backTo pos (starEach [] X.env)) (backToKw pos (keywordEach [] X.env))) := by rfl) : EE X M e cs (.Call (.Attribute (.Name cn p) m apos) [] [] pos) d cs2 where
  dm := w.dm
  k := fun σ H Q S k => by
    obtain ⟨C, mc, g, hm, hrd, hv, hk, F⟩ := F.ex
    exact we_of (pe_cstat0 (E := E0) (pe_glob (v := .ref C) hg hm rfl hdb) hrd hv hk F hr passL ht) ⟨rfl, out_use S Rs.nil w k⟩
theorem x_sm {pl : Sem Bool} (F : Sm X.prog X.w X.K X.mg X.base cn m k ds cz (.err x) cz') (hr : Room k X.A) (ha : EA X M e cs (a :: es) ds cs1) (w : Sw cz cz' cs1 cs2) (hg : Gl X cn := by rfl) (hdb : (cn == ("__debug__" : Str)) = false := by decide)
    (hst : starEach (a :: es) X.env = (false, eval a X.env) :: starEach es X.env := by rfl) (hpl : (backTo pos (starEach es X.env)).any (·.1) = false := by rfl)
    (ht : eval (.Call (.Attribute (.Name cn p) m apos) (a :: es) [] pos) X.env = (do
      let ov ← eval (.Name cn p) X.env
      standAt apos.atName
      let (f, first) ← holding [ov] (getMethod ov m pl)
      callWith pos f first (backTo pos (starEach (a :: es) X.env)) (backToKw pos (keywordEach [] X.env))) := by rfl) : EX X M e cs (.Call (.Attribute (.Name cn p) m apos) (a :: es) [] pos) x cs2 where
  dm := w.dm.trans ha.dm
  k := fun σ H W Q tk S k => by
    obtain ⟨C, mc, g, hm, hrd, hv, hk, F⟩ := F.ex
    exact we_of (pe_cstatS (E := WE W) (pe_glob (v := .ref C) hg hm rfl hdb) hrd hv hk F hr (passAt tk) pa_w hst hpl ht) ⟨rfl, ha.k σ H _ S fun vs H1 S1 x1 r1 => err_use S1 r1 w fun cls d H' S2 x2 r2 => k cls d H' S2 (x1.trans (by rw [← ha.dm]; exact x2)) r2⟩
theorem x_sm0 {pl : Sem Bool} (F : Sm X.prog X.w X.K X.mg X.base cn m k [] cz (.err x) cz') (hr : Room k X.A) (w : Sw cz cz' cs cs2) (hg : Gl X cn := by rfl) (hdb : (cn == ("__debug__" : Str)) = false := by decide)
    (ht : eval (.Call (.Attribute (.Name cn p) m apos) [] [] pos) X.env = (do
      let ov ← eval (.Name cn p) X.env
      standAt apos.atName
      let (f, first) ← holding [ov] (getMethod ov m pl)
      callWith pos f first (backTo pos (starEach [] X.env)) (backToKw pos (keywordEach [] X.env))) := by rfl) : EX X M e cs (.Call (.Attribute (.Name cn p) m apos) [] [] pos) x cs2 where
  dm := w.dm
  k := fun σ H W Q tk S k => by
    obtain ⟨C, mc, g, hm, hrd, hv, hk, F⟩ := F.ex
    exact we_of (pe_cstatS0 (E := WE W) (pe_glob (v := .ref C) hg hm rfl hdb) hrd hv hk F hr (passAt tk) ht) ⟨rfl, err_use S Rs.nil w k⟩
theorem e_ma (F : Ma X.prog X.w X.K X.mg X.base cn k ds (.ok ns gs)) (hr : Room (k + 1) X.A) (ha : EA X M e cs (a :: es) ds cs1) (hg : Gl X cn := by rfl) (hdb : (cn == ("__debug__" : Str)) = false := by decide)
    (he : starEach (a :: es) X.env = (false, eval a X.env) :: starEach es X.env := by rfl) (hpl : (backTo pos (starEach es X.env)).any (·.1) = false := by rfl) : EE X M e cs (.Call (.Name cn p) (a :: es) [] pos) (.obj cn ns gs) cs1 where
  dm := ha.dm
  k := fun σ H Q S k => by
    obtain ⟨C, f, hm, hmk, F⟩ := F.ex
    exact we_of (StX.pe_makeR (E := E0) hmk F hr hg hm passL pa_w hdb he hpl) (ha.k σ H _ S fun vs H1 S1 x1 r1 xa dx hx hdx hne => mak_use hm S1 r1 hx hdx hne fun v H' S2 x2 r2 => k v H' S2 (x1.trans (x2.mono (by simp))) r2)
theorem e_ma0 (F : Ma X.prog X.w X.K X.mg X.base cn k [] (.ok ns gs)) (hr : Room (k + 1) X.A) (hg : Gl X cn := by rfl) (hdb : (cn == ("__debug__" : Str)) = false := by decide) : EE X M e cs (.Call (.Name cn p) [] [] pos) (.obj cn ns gs) cs where
  dm := rfl
  k := fun σ H Q S k => by
    obtain ⟨C, f, hm, hmk, F⟩ := F.ex
    exact we_of (pe_makeR0 (E := E0) hmk F hr hg hm passL hdb) (fun xa dx hx hdx hne => mak_use hm S Rs.nil hx hdx hne fun v H' S2 x2 r2 => k v H' S2 (x2.mono (by simp)) r2)
theorem x_ma (F : Ma X.prog X.w X.K X.mg X.base cn k ds (.err x)) (hr : Room (k + 1) X.A) (ha : EA X M e cs (a :: es) ds cs1) (hg : Gl X cn := by rfl) (hdb : (cn == ("__debug__" : Str)) = false := by decide)
    (he : starEach (a :: es) X.env = (false, eval a X.env) :: starEach es X.env := by rfl) (hpl : (backTo pos (starEach es X.env)).any (·.1) = false := by rfl) : EX X M e cs (.Call (.Name cn p) (a :: es) [] pos) x cs1 where
  dm := ha.dm
  k := fun σ H W Q tk S k => by
    obtain ⟨C, f, hm, hmk, F⟩ := F.ex
    exact we_of (pe_makeRS (E := WE W) hmk F hr hg hm (passAt tk) pa_w hdb he hpl) (ha.k σ H _ S fun vs H1 S1 x1 r1 xa dx hx hdx hne => mak_err hm S1 r1 hx hdx hne fun cls d H' S2 x2 r2 => k cls d H' S2 (x1.trans (x2.mono (by simp))) r2)
theorem x_ma0 (F : Ma X.prog X.w X.K X.mg X.base cn k [] (.err x)) (hr : Room (k + 1) X.A) (hg : Gl X cn := by rfl) (hdb : (cn == ("__debug__" : Str)) = false := by decide) : EX X M e cs (.Call (.Name cn p) [] [] pos) x cs where
  dm := rfl
  k := fun σ H W Q tk S k => by
    obtain ⟨C, f, hm, hmk, F⟩ := F.ex
    exact we_of (pe_makeRS0 (E := WE W) hmk F hr hg hm (passAt tk) hdb) (fun xa dx hx hdx hne => mak_err hm S Rs.nil hx hdx hne fun cls d H' S2 x2 r2 => k cls d H' S2 (x2.mono (by simp)) r2)
end
end Od

set_option Elab.async false
set_option linter.all false
set_option maxRecDepth 100000
set_option maxHeartbeats 4000000
/-! Od27: calls with starred arguments. -/
namespace Od
open PySem L2 StX
section
variable {X : Cx} {CX : CXT} {k i : Nat} {f C : Addr} {sp : Sp} {x : Str} {ex : Expr} {es : List Expr} {te : TE} {t : TA} {p sp_ pos : Pos} {E : L2.St → XK}
theorem pe_makeS2 (Mm : Mk X.K C f) (F : FnR X.prog X.w X.K X.mg X.base CX k f sp) (hr : Room (k + 1) X.A) (hg : Gl X x) (hm : X.mg x = some (.ref C)) (hx : ∀ σ, PassesAt CX X σ (E σ)) (ha : PA X (ex :: es) t) (hdb : (x == ("__debug__" : Str)) = false)
    (he : starEach (ex :: es) X.env = (false, eval ex X.env) :: starEach es X.env) (hst : (backTo pos (starEach es X.env)).any (·.1) = true) : PE X (.Call (.Name x p) (ex :: es) [] pos) (fun σ H Q => t σ H fun vs H1 => ∀ xa dx, H1 xa = none → H1 dx = none → dx ≠ xa → sp (V.ref xa :: vs) (upd (upd H1 dx (.own xa)) xa (.ins C dx [])) (fun v H2 => v = .non ∧ Q (.ref xa) H2) (E σ)) := by
  refine ⟨fun pins s σ H Q I h => ?_⟩
  refine wpAny_Call_Name_kw (ld_glob I hg hm ?_ hdb)
  refine PySem.W.callWith_S2 (h₀ := X.base) I.ok.mod.kin Mm.kp (thn (ha.run pos pins s σ H _ I h) fun us s1 ⟨vs, H1, I1, r, q⟩ => ⟨I1.kIn, ?_⟩) he hst
  exact run_makeRS Mm F hr (hx σ) I1 r q
theorem pe_makeS1 (Mm : Mk X.K C f) (F : FnR X.prog X.w X.K X.mg X.base CX k f sp) (hr : Room (k + 1) X.A) (hg : Gl X x) (hm : X.mg x = some (.ref C)) (hx : ∀ σ, PassesAt CX X σ (E σ)) (he : PE X ex te) (hdb : (x == ("__debug__" : Str)) = false)
    (hst : starEach [.Starred ex sp_] X.env = [(true, eval ex X.env)]) : PE X (.Call (.Name x p) [.Starred ex sp_] [] pos) (fun σ H Q => te σ H fun y H1 => ∃ a xs, y = V.ref a ∧ (SqT X.K H1 a xs ∨ SqL X.K H1 a xs) ∧ ∀ xa dx, H1 xa = none → H1 dx = none → dx ≠ xa → sp (V.ref xa :: xs) (upd (upd H1 dx (.own xa)) xa (.ins C dx [])) (fun v H2 => v = .non ∧ Q (.ref xa) H2) (E σ)) := by
  refine ⟨fun pins s σ H Q I h => ?_⟩
  refine wpAny_Call_Name_kw (ld_glob I hg hm ?_ hdb)
  refine PySem.W.callWith_S (h₀ := X.base) I.ok.mod.kin Mm.kp (thn (he.run pins s σ H _ I h) fun v s1 ⟨y, H1, I1, ry, a, xs, ey, hxs, q⟩ => ?_) hst
  subst ey
  obtain rfl : v = Value.ref a := ry
  exact star_any I1 hxs fun us s2 I2 rv => ⟨I2.kIn, run_makeRS Mm F hr (hx σ) I2 rv q⟩
theorem pe_callRS2 (F : FnR X.prog X.w X.K X.mg X.base CX k f sp) (hr : Room k X.A) (hk : PySem.W.keepIn X.K (.ref f) = true) (hg : Gl X x) (hm : X.mg x = some (.ref f)) (hx : ∀ σ, PassesAt CX X σ (E σ)) (ha : PA X (ex :: es) t) (hdb : (x == ("__debug__" : Str)) = false)
    (he : starEach (ex :: es) X.env = (false, eval ex X.env) :: starEach es X.env) (hst : (backTo pos (starEach es X.env)).any (·.1) = true) :
    PE X (.Call (.Name x p) (ex :: es) [] pos) (fun σ H Q => t σ H fun vs H1 => sp vs H1 Q (E σ)) := by
  refine ⟨fun pins s σ H Q I h => ?_⟩
  refine wpAny_Call_Name_kw (ld_glob I hg hm ?_ hdb)
  refine PySem.W.callWith_S2 (h₀ := X.base) I.ok.mod.kin hk (thn (ha.run pos pins s σ H _ I h) fun us s1 ⟨vs, H1, I1, r, q⟩ => ⟨I1.kIn, ?_⟩) he hst
  exact wpAny_call (run_fnRS F hr (hx σ) I1 r q)
end
section
variable {X : Cx} {M : Addr → Prop} {e : DE} {cs cs1 cs2 cs3 : Cs} {pos p pos' apos sp_ : Pos} {a b c ex o : Expr} {es : List Expr} {d y z : D} {ds gs args : List D} {n m cn : Str} {ns : List Str} {k j : Nat} {cz cz' : Cs} {x : Xc}
/-- a datum that stands for a row of values -/
inductive RowD : D → List D → Prop
  | lst (ds : List D) : RowD (.lst ds) ds
  | tup (ds : List D) : RowD (.tup ds) ds
theorem RowD.sq {H : Hp} {v : V} (h : RowD d ds) (r : R X.K X.mg M H v d) : ∃ a xs, v = V.ref a ∧ (SqT X.K H a xs ∨ SqL X.K H a xs) ∧ Rs X.K X.mg M H xs ds := by
  cases h with
  | lst =>
    obtain ⟨a, xs, rfl, _, ha, ra⟩ := r_lst r
    exact ⟨a, xs, rfl, .inr (.of ha), ra⟩
  | tup =>
    obtain ⟨a, xs, rfl, ha, ra⟩ := r_tup r
    exact ⟨a, xs, rfl, .inl ha, ra⟩
/-- *b in an argument list -/
theorem a_star (hrow : RowD d ds) (ha : EE X M e cs a d cs1) (hr : EA X M e cs1 es gs cs2) (hs : starEach (.Starred a sp_ :: es) X.env = (true, eval a X.env) :: starEach es X.env := by rfl) : EA X M e cs (.Starred a sp_ :: es) (ds ++ gs) cs2 where
  dm := hr.dm.trans ha.dm
  k := fun σ H Q S k => wa_of (pa_star pe_w pa_w hs) (ha.k σ H _ S fun v H1 S1 x1 r1 => by
    obtain ⟨ad, xs, rfl, hq, rs⟩ := hrow.sq r1
    exact ⟨ad, xs, rfl, hq, hr.k σ H1 _ S1 fun vs H2 S2 x2 r2 => k _ H2 S2 (x1.trans (by rw [← ha.dm]; exact x2)) ((S1.rs x2 rs).append r2)⟩)
theorem passN (σ : L2.St) : PassesAt (L2.CX X.prog X.w) X σ E0 := fun pins H s e s' I c => passL (X := X) pins σ H s e s' I c
/-- C(a, .., *b) -/
theorem e_maS2 (F : Ma X.prog X.w X.K X.mg X.base cn k ds (.ok ns gs)) (hr : Room (k + 1) X.A) (ha : EA X M e cs (a :: es) ds cs1) (hg : Gl X cn := by rfl) (hdb : (cn == ("__debug__" : Str)) = false := by decide)
    (he : starEach (a :: es) X.env = (false, eval a X.env) :: starEach es X.env := by rfl) (hst : (backTo pos (starEach es X.env)).any (·.1) = true := by rfl) : EE X M e cs (.Call (.Name cn p) (a :: es) [] pos) (.obj cn ns gs) cs1 where
  dm := ha.dm
  k := fun σ H Q S k => by
    obtain ⟨C, f, hm, hmk, F⟩ := F.ex
    exact we_of (pe_makeS2 (E := fun _ => E0) hmk F hr hg hm passN pa_w hdb he hst) (ha.k σ H _ S fun vs H1 S1 x1 r1 xa dx hx hdx hne => mak_use hm S1 r1 hx hdx hne fun v H' S2 x2 r2 => k v H' S2 (x1.trans (x2.mono (by simp))) r2)
theorem x_maS2 (F : Ma X.prog X.w X.K X.mg X.base cn k ds (.err x)) (hr : Room (k + 1) X.A) (ha : EA X M e cs (a :: es) ds cs1) (hg : Gl X cn := by rfl) (hdb : (cn == ("__debug__" : Str)) = false := by decide)
    (he : starEach (a :: es) X.env = (false, eval a X.env) :: starEach es X.env := by rfl) (hst : (backTo pos (starEach es X.env)).any (·.1) = true := by rfl) : EX X M e cs (.Call (.Name cn p) (a :: es) [] pos) x cs1 where
  dm := ha.dm
  k := fun σ H W Q tk S k => by
    obtain ⟨C, f, hm, hmk, F⟩ := F.ex
    exact we_of (pe_makeS2 (E := WE W) hmk F hr hg hm (passAt tk) pa_w hdb he hst) (ha.k σ H _ S fun vs H1 S1 x1 r1 xa dx hx hdx hne => mak_err hm S1 r1 hx hdx hne fun cls d H' S2 x2 r2 => k cls d H' S2 (x1.trans (x2.mono (by simp))) r2)
/-- C(*b) -/
theorem e_maS1 (F : Ma X.prog X.w X.K X.mg X.base cn k ds (.ok ns gs)) (hr : Room (k + 1) X.A) (hrow : RowD d ds) (ha : EE X M e cs a d cs1) (hg : Gl X cn := by rfl) (hdb : (cn == ("__debug__" : Str)) = false := by decide)
    (hst : starEach [.Starred a sp_] X.env = [(true, eval a X.env)] := by rfl) : EE X M e cs (.Call (.Name cn p) [.Starred a sp_] [] pos) (.obj cn ns gs) cs1 where
  dm := ha.dm
  k := fun σ H Q S k => by
    obtain ⟨C, f, hm, hmk, F⟩ := F.ex
    refine we_of (pe_makeS1 (E := fun _ => E0) hmk F hr hg hm passN pe_w hdb hst) (ha.k σ H _ S fun v H1 S1 x1 r1 => ?_)
    obtain ⟨ad, xs, rfl, hq, rs⟩ := hrow.sq r1
    exact ⟨ad, xs, rfl, hq, fun xa dx hx hdx hne => mak_use hm S1 rs hx hdx hne fun v H' S2 x2 r2 => k v H' S2 (x1.trans (x2.mono (by simp))) r2⟩
theorem x_maS1 (F : Ma X.prog X.w X.K X.mg X.base cn k ds (.err x)) (hr : Room (k + 1) X.A) (hrow : RowD d ds) (ha : EE X M e cs a d cs1) (hg : Gl X cn := by rfl) (hdb : (cn == ("__debug__" : Str)) = false := by decide)
    (hst : starEach [.Starred a sp_] X.env = [(true, eval a X.env)] := by rfl) : EX X M e cs (.Call (.Name cn p) [.Starred a sp_] [] pos) x cs1 where
  dm := ha.dm
  k := fun σ H W Q tk S k => by
    obtain ⟨C, f, hm, hmk, F⟩ := F.ex
    refine we_of (pe_makeS1 (E := WE W) hmk F hr hg hm (passAt tk) pe_w hdb hst) (ha.k σ H _ S fun v H1 S1 x1 r1 => ?_)
    obtain ⟨ad, xs, rfl, hq, rs⟩ := hrow.sq r1
    exact ⟨ad, xs, rfl, hq, fun xa dx hx hdx hne => mak_err hm S1 rs hx hdx hne fun cls d H' S2 x2 r2 => k cls d H' S2 (x1.trans (x2.mono (by simp))) r2⟩
end
end Od

set_option Elab.async false
set_option linter.all false
set_option maxRecDepth 100000
set_option maxHeartbeats 4000000
/-! Ox5: errors pass through expressions and statements; bodies that may raise. -/
namespace Od
open PySem L2
section
variable {X : Cx} {M : Addr → Prop} {e : DE} {cs cs1 cs2 cs3 : Cs} {pos p pos' apos : Pos} {a b c ex o : Expr} {es : List Expr} {d y z : D} {ds gs args : List D} {n m cn : Str} {ns : List Str} {k j : Nat} {cz cz' : Cs} {x : Xc}
theorem xa_here (ha : EX X M e cs a x cs1) (hs : starEach (a :: es) X.env = (false, eval a X.env) :: starEach es X.env := by rfl) : XA X M e cs (a :: es) x cs1 :=
  ⟨ha.dm, fun σ H W Q tk S k => wa_of (pa_cons pe_w pa_w hs) (ha.k σ H W _ tk S k)⟩
theorem xa_there (ha : EE X M e cs a d cs1) (hr : XA X M e cs1 es x cs2) (hs : starEach (a :: es) X.env = (false, eval a X.env) :: starEach es X.env := by rfl) : XA X M e cs (a :: es) x cs2 where
  dm := hr.dm.trans ha.dm
  k := fun σ H W Q tk S k => wa_of (pa_cons pe_w pa_w hs) (ha.k σ H _ S fun v H1 S1 x1 r1 => hr.k σ H1 W _ tk S1 fun cls dd H2 S2 x2 r2 => k cls dd H2 S2 (x1.trans (by rw [← ha.dm]; exact x2)) r2)
theorem x_un {op : UnaryOp} (hx : EX X M e cs a x cs1) {r} (ho : UnR X (unaryOp op) r) : EX X M e cs (.UnaryOp op a pos) x cs1 := ⟨hx.dm, fun σ H W Q tk S k => we_of (pe_un ho pe_w) (hx.k σ H W _ tk S k)⟩
theorem x_bin1 {op : Operator} {r} (ho : OpR X (binaryOp op) r) (hx : EX X M e cs a x cs1) : EX X M e cs (.BinOp a op b pos) x cs1 := ⟨hx.dm, fun σ H W Q tk S k => we_of (pe_op ho pe_w pe_w) (hx.k σ H W _ tk S k)⟩
theorem x_bin2 {op : Operator} {r} (ho : OpR X (binaryOp op) r) (ha : EE X M e cs a d cs1) (hx : EX X M e cs1 b x cs2) : EX X M e cs (.BinOp a op b pos) x cs2 where
  dm := hx.dm.trans ha.dm
  k := fun σ H W Q tk S k => we_of (pe_op ho pe_w pe_w) (ha.k σ H _ S fun v H1 S1 x1 r1 => hx.k σ H1 W _ tk S1 fun cls dd H2 S2 x2 r2 => k cls dd H2 S2 (x1.trans (by rw [← ha.dm]; exact x2)) r2)
/-- an argument raises: f(..), f any def that is promised something -/
theorem x_fnA {sp : Sp} (F : Dfn X.prog X.w X.K X.mg X.base n k sp) (hr : Room k X.A) (ha : XA X M e cs (a :: es) x cs1) (hg : Gl X n := by rfl) (hdb : (n == ("__debug__" : Str)) = false := by decide)
    (he : starEach (a :: es) X.env = (false, eval a X.env) :: starEach es X.env := by rfl) (hpl : (backTo pos (starEach es X.env)).any (·.1) = false := by rfl) : EX X M e cs (.Call (.Name n p) (a :: es) [] pos) x cs1 where
  dm := ha.dm
  k := fun σ H W Q tk S k => by
    obtain ⟨f, hm, hk, F⟩ := F.ex
    exact we_of (pe_callRS (E := WE W) F hr hg hm hk (passAt tk) pa_w hdb he hpl) (ha.k σ H W _ tk S k)
theorem x_maA {sp : Sp} (F : Mkr X.prog X.w X.K X.mg X.base cn k sp) (hr : Room (k + 1) X.A) (ha : XA X M e cs (a :: es) x cs1) (hg : Gl X cn := by rfl) (hdb : (cn == ("__debug__" : Str)) = false := by decide)
    (he : starEach (a :: es) X.env = (false, eval a X.env) :: starEach es X.env := by rfl) (hpl : (backTo pos (starEach es X.env)).any (·.1) = false := by rfl) : EX X M e cs (.Call (.Name cn p) (a :: es) [] pos) x cs1 where
  dm := ha.dm
  k := fun σ H W Q tk S k => by
    obtain ⟨C, f, hm, hmk, F⟩ := F.ex
    exact we_of (pe_makeRS (E := WE W) hmk F hr hg hm (passAt tk) pa_w hdb he hpl) (ha.k σ H W _ tk S k)
theorem x_smA {sp : Sp} {pl : Sem Bool} (F : Stc X.prog X.w X.K X.mg X.base cn m k sp) (hr : Room k X.A) (ha : XA X M e cs (a :: es) x cs1) (hg : Gl X cn := by rfl) (hdb : (cn == ("__debug__" : Str)) = false := by decide)
    (hst : starEach (a :: es) X.env = (false, eval a X.env) :: starEach es X.env := by rfl) (hpl : (backTo pos (starEach es X.env)).any (·.1) = false := by rfl)
    (ht : eval (.Call (.Attribute (.Name cn p) m apos) (a :: es) [] pos) X.env = (do
      let ov ← eval (.Name cn p) X.env
      standAt apos.atName
      let (f, first) ← holding [ov] (getMethod ov m pl)
      callWith pos f first (backTo pos (starEach (a :: es) X.env)) (backToKw pos (keywordEach [] X.env))) := by rfl) : EX X M e cs (.Call (.Attribute (.Name cn p) m apos) (a :: es) [] pos) x cs1 where
  dm := ha.dm
  k := fun σ H W Q tk S k => by
    obtain ⟨C, mc, g, hm, hrd, hv, hk, F⟩ := F.ex
    exact we_of (pe_cstatS (E := WE W) (pe_glob (v := .ref C) hg hm rfl hdb) hrd hv hk F hr (passAt tk) pa_w hst hpl ht) ⟨rfl, ha.k σ H W _ tk S k⟩
theorem x_meA {sp : Sp} {pl : Sem Bool} (F : Mth X.prog X.w X.K X.mg X.base cn m k sp) (hr : Room k X.A) (ho : EE X M e cs o (.obj cn ns gs) cs1) (ha : XA X M e cs1 (a :: es) x cs2) (hnm : m ∉ ns := by decide +kernel)
    (hst : starEach (a :: es) X.env = (false, eval a X.env) :: starEach es X.env := by rfl) (hpl : (backTo pos (starEach es X.env)).any (·.1) = false := by rfl)
    (ht : eval (.Call (.Attribute o m apos) (a :: es) [] pos) X.env = (do
      let ov ← eval o X.env
      standAt apos.atName
      let (f, first) ← holding [ov] (getMethod ov m pl)
      callWith pos f first (backTo pos (starEach (a :: es) X.env)) (backToKw pos (keywordEach [] X.env))) := by rfl) : EX X M e cs (.Call (.Attribute o m apos) (a :: es) [] pos) x cs2 where
  dm := ha.dm.trans ho.dm
  k := fun σ H W Q tk S k => by
    obtain ⟨C, f, hm, hc, hmt, F⟩ := F.ex
    refine we_of (pe_methRS (E := WE W) pe_w hc hmt F hr (passAt tk) pa_w hst hpl ht) (ho.k σ H _ S fun v H1 S1 x1 r1 => ?_)
    obtain ⟨ad, C', dx, xs, rfl, _, hm', hob, hl, rs⟩ := r_obj r1
    rw [hm] at hm'; cases hm'
    exact ⟨ad, dx, _, rfl, hob, zip_lookup_none hnm, ha.k σ H1 W _ tk S1 fun cls dd H2 S2 x2 r2 => k cls dd H2 S2 (x1.trans (by rw [← ho.dm]; exact x2)) r2⟩
theorem x_meO {sp : Sp} {pl : Sem Bool} (F : Mth X.prog X.w X.K X.mg X.base cn m k sp) (hr : Room k X.A) (ho : EX X M e cs o x cs1)
    (ht : eval (.Call (.Attribute o m apos) [] [] pos) X.env = (do
      let ov ← eval o X.env
      standAt apos.atName
      let (f, first) ← holding [ov] (getMethod ov m pl)
      callWith pos f first (backTo pos (starEach [] X.env)) (backToKw pos (keywordEach [] X.env))) := by rfl) : EX X M e cs (.Call (.Attribute o m apos) [] [] pos) x cs1 where
  dm := ho.dm
  k := fun σ H W Q tk S k => by
    obtain ⟨C, f, hm, hc, hmt, F⟩ := F.ex
    exact we_of (pe_methRS0 (E := WE W) pe_w hc hmt F hr (passAt tk) ht) (ho.k σ H W _ tk S k)
theorem x_tup {x1} (ha : XA X M e cs es x cs1) : EX X M e cs (.Tuple es x1 pos) x cs1 := ⟨ha.dm, fun σ H W Q tk S k => we_of (pe_tup pa_w) (ha.k σ H W _ tk S k)⟩
theorem x_lst (ha : XA X M e cs es x cs1) : EX X M e cs (.List es pos) x cs1 := ⟨ha.dm, fun σ H W Q tk S k => we_of (pe_lst pa_w) (ha.k σ H W _ tk S k)⟩
theorem x_if {p0 : Bool} (hc : ET X M e cs c p0 cs1) (ha : p0 = true → EX X M e cs1 a x cs2) (hb : p0 = false → EX X M e cs1 b x cs2) : EX X M e cs (.IfExp c a b pos) x cs2 where
  dm := by
    cases p0 with
    | true => exact (ha rfl).dm.trans hc.dm
    | false => exact (hb rfl).dm.trans hc.dm
  k := fun σ H W Q tk S k => we_of (pe_ifExp pt_w pe_w pe_w) (hc.k σ H _ S fun H1 S1 x1 => by
    cases p0 with
    | true =>
      rw [if_pos rfl]
      exact (ha rfl).k σ H1 W _ tk S1 fun cls dd H2 S2 x2 r2 => k cls dd H2 S2 (x1.trans (by rw [← hc.dm]; exact x2)) r2
    | false =>
      rw [if_neg (by simp)]
      exact (hb rfl).k σ H1 W _ tk S1 fun cls dd H2 S2 x2 r2 => k cls dd H2 S2 (x1.trans (by rw [← hc.dm]; exact x2)) r2)
theorem EX.eq {x' : Xc} (h : EX X M e cs a x cs1) (q : x = x') : EX X M e cs a x' cs1 := q ▸ h
theorem EA.eq {ds' : List D} (h : EA X M e cs es ds cs1) (q : ds = ds') : EA X M e cs es ds' cs1 := q ▸ h
end
/-! ### statements that raise -/
section
variable {X : Cx} {M M0 : Addr → Prop} {e : DE} {cs cs1 cs2 c2 : Cs} {fr : Frs} {D0 : Ends} {pos p pos' pos2 : Pos} {a b c ex : Expr} {rest st st2 : List Stmt} {d : D} {n : Str} {x : Xc} {A0 : List Addr} {H0 : Hp} {Q : VK} {E : XK} {code fl : Str} {C : Addr} {k : Nat}
/-- what is wanted where an error leaves -/
theorem err_fin (hfr : (A0, H0) ∈ fr) (hM : ∀ a, M0 a → M a) (hc : ∀ p ∈ c2, p ∈ cs1) (hMc : ∀ p ∈ c2, M0 p.1) (kx : OutK X.K X.mg M0 A0 H0 c2 Q E (.err x)) {σ : L2.St} {H' : Hp} {cls : Value} {dd : Option Addr} (S : Sit X.K X.mg M σ H' e cs1) (xf : Fr fr H') (r : RX X.K X.mg M H' cls dd x) : E cls dd H' :=
  kx cls dd H' (fun a m => S.mt a (hM a m)) (xf _ hfr) (fun p hp => ⟨hMc p hp, (S.cel p (hc p hp)).2.ext (fun a o _ h => h) (fun a n _ z => n (hM a z)) fun o h => h⟩) (r.ext (fun a o _ h => h) (fun a n _ z => n (hM a z)))
theorem at_xretG (hx : EX X M e cs ex x cs1) (hfr : (A0, H0) ∈ fr) (hM : ∀ a, M0 a → M a) (hc : ∀ p ∈ c2, p ∈ cs1) (hMc : ∀ p ∈ c2, M0 p.1) (kx : OutK X.K X.mg M0 A0 H0 c2 Q E (.err x)) (tk : Takes X (fun cls d _ H => E cls d H) := by exact takes_of rfl rfl rfl rfl) : At X M e cs fr (wSs X (.Return (some ex) pos :: rest) D0) := fun σ H S xf l =>
  wss_of (pss_cons (ps_ret pe_w) pss_w) (hx.k σ H _ _ tk S fun cls dd H1 S1 x1 r1 => err_fin hfr hM hc hMc kx S1 (ext_on xf l x1) r1)
theorem at_xsetG (hx : EX X M e cs ex x cs1) (hfr : (A0, H0) ∈ fr) (hM : ∀ a, M0 a → M a) (hc : ∀ p ∈ c2, p ∈ cs1) (hMc : ∀ p ∈ c2, M0 p.1) (kx : OutK X.K X.mg M0 A0 H0 c2 Q E (.err x)) (i : Nat) (hN : X.N.Nodup) (hi : X.N[i]? = some n := by rfl) (hxl : Loc X.env.scope n := by first | exact .inl rfl | exact .inr rfl)
    (hs : swapsWith ex (some (.Name n pos')) pos.line X.env = pure false := by rfl) (hf : X.fn n = true ∨ X.env.scope.names.lookup n = some .local := by first | exact .inl rfl | exact .inr rfl) (tk : Takes X (fun cls d _ H => E cls d H) := by exact takes_of rfl rfl rfl rfl) : At X M e cs fr (wSs X (.Assign [.Name n pos'] ex pos :: rest) D0) := fun σ H S xf l =>
  wss_of (pss_cons (ps_set hN hi hxl pe_w hs hf) pss_w) (hx.k σ H _ _ tk S fun cls dd H1 S1 x1 r1 => err_fin hfr hM hc hMc kx S1 (ext_on xf l x1) r1)
theorem at_xexprG (hx : EX X M e cs ex x cs1) (hfr : (A0, H0) ∈ fr) (hM : ∀ a, M0 a → M a) (hc : ∀ p ∈ c2, p ∈ cs1) (hMc : ∀ p ∈ c2, M0 p.1) (kx : OutK X.K X.mg M0 A0 H0 c2 Q E (.err x)) (hs : swapsWith ex none pos.line X.env = pure false := by rfl) (tk : Takes X (fun cls d _ H => E cls d H) := by exact takes_of rfl rfl rfl rfl) : At X M e cs fr (wSs X (.Expr ex pos :: rest) D0) := fun σ H S xf l =>
  wss_of (pss_cons (ps_expr pe_w hs) pss_w) (hx.k σ H _ _ tk S fun cls dd H1 S1 x1 r1 => err_fin hfr hM hc hMc kx S1 (ext_on xf l x1) r1)
theorem rx_new {H : Hp} {d0 : Addr} {ns : List Str} {ds : List D} {xs : List V} {cn : Str} (mt : ∀ a, M a → H a ≠ none) (hm : X.mg cn = some (.ref C)) (hn : H d0 = none) (r : Rs X.K X.mg M H xs ds) (hl : ns.length = xs.length) : RX X.K X.mg M (upd H d0 (.xd (ns.zip xs))) (.ref C) (some d0) ⟨cn, ns, ds⟩ :=
  ⟨C, d0, xs, hm, rfl, rfl, new_m mt hn, upd_same, hl, Rs.ext (fun a o _ h => by rw [upd_ne (ne_of_none h hn)]; exact h) (fun _ n _ => n) _ r⟩
/-- raise C(e) -/
theorem at_raise1G (T : Ox.Err1 X.prog X.w X.K X.mg n code fl C) (ha : EE X M e cs a d cs1) (hr : Room k X.A) (hfr : (A0, H0) ∈ fr) (hM : ∀ a, M0 a → M a) (hc : ∀ p ∈ c2, p ∈ cs1) (hMc : ∀ p ∈ c2, M0 p.1) (kx : OutK X.K X.mg M0 A0 H0 c2 Q E (.err ⟨n, ["code", fl], [.str code, d]⟩)) (hne : (fl == ("code" : Str)) = false := by decide) (hg : Gl X n := by rfl) (hdb : (n == ("__debug__" : Str)) = false := by decide)
    (he : starEach (a :: []) X.env = (false, eval a X.env) :: starEach [] X.env := by rfl) (hpl : (backTo pos (starEach [] X.env)).any (·.1) = false := by rfl) (hcm : X.calm = true := by rfl) (tk : Takes X (fun cls d _ H => E cls d H) := by exact takes_of rfl rfl rfl rfl) :
    At X M e cs fr (wSs X (.Raise (some (.Call (.Name n p) [a] [] pos)) none pos2 :: rest) D0) := fun σ H S xf l =>
  wss_of (pss_cons (ps_raise hcm tk (pmk_1 T hne hr (pa_cons pe_w pa_nil he) hg hdb he hpl)) pss_w) (ha.k σ H _ S fun v H1 S1 x1 r1 => ⟨v, rfl, fun d0 hn => by
    have xn : Ext [] H1 (upd H1 d0 (.xd [(("code" : Str), V.str code), (fl, v)])) := Ext.new hn
    exact err_fin hfr hM hc hMc kx (S1.ex xn) (ext_on (ext_on xf l x1) (lo_of l ha.dm) (xn.mono (by simp))) (rx_new (ns := ["code", fl]) (xs := [.str code, v]) S1.mt T.mC hn (.cons (by simp [R]) (.cons r1 .nil)) rfl)⟩)
/-- raise C() -/
theorem at_raise0G (T : Ox.Err0 X.prog X.w X.K X.mg n code C) (hr : Room k X.A) (hfr : (A0, H0) ∈ fr) (hM : ∀ a, M0 a → M a) (hc : ∀ p ∈ c2, p ∈ cs) (hMc : ∀ p ∈ c2, M0 p.1) (kx : OutK X.K X.mg M0 A0 H0 c2 Q E (.err ⟨n, ["code"], [.str code]⟩)) (hg : Gl X n := by rfl) (hdb : (n == ("__debug__" : Str)) = false := by decide)
    (hcm : X.calm = true := by rfl) (tk : Takes X (fun cls d _ H => E cls d H) := by exact takes_of rfl rfl rfl rfl) :
    At X M e cs fr (wSs X (.Raise (some (.Call (.Name n p) [] [] pos)) none pos2 :: rest) D0) := fun σ H S xf l =>
  wss_of (pss_cons (ps_raise hcm tk (pmk_0 T hr hg hdb)) pss_w) (fun d0 hn => by
    have xn : Ext [] H (upd H d0 (.xd [(("code" : Str), V.str code)])) := Ext.new hn
    exact err_fin hfr hM hc hMc kx (S.ex xn) (ext_on xf l (xn.mono (by simp))) (rx_new (ns := ["code"]) (xs := [.str code]) S.mt T.mC hn (.cons (by simp [R]) .nil) rfl))
/-- .. nothing of one's own there -/
theorem at_xret (hx : EX X M e cs ex x cs1) (hfr : (A0, H0) ∈ fr) (kx : OutK X.K X.mg M A0 H0 cs1 Q E (.err x)) (hMc : ∀ p ∈ cs1, M p.1 := by simp) (tk : Takes X (fun cls d _ H => E cls d H) := by exact takes_of rfl rfl rfl rfl) : At X M e cs fr (wSs X (.Return (some ex) pos :: rest) D0) := at_xretG hx hfr (fun _ h => h) (fun _ h => h) hMc kx tk
end
/-! ### bodies -/
section
variable {P : Program} {w : World} {K : PySem.W.Frag} {mg : Str → Option Value} {base : Heap} {args : List D} {cs cs' : Cs} {res : Out} {x qual n c m : Str} {st : Stmt} {f : Addr} {fd : FuncData} {N ps : List Str} {k : Nat}
def BodyO (P : Program) (w : World) (K : PySem.W.Frag) (mg : Str → Option Value) (base : Heap) (qual : Str) (st : Stmt) (f : Addr) (N : List Str) (k : Nat) (args : List D) (cs : Cs) (res : Out) (cs' : Cs) : Prop :=
  ∀ (cdv : Value) (A : Around) (outer : List Env) (s : Shared) (H0 : Hp) (E : XK) (M : Addr → Prop) (Q : VK), Room k (A.deeper (PyProof.Rows.envOfC qual (defScope st) s.heap.objs.size f cdv)) → (∀ p ∈ cs, M p.1) → OutK K mg M (dom cs) H0 cs' Q E res →
    At (cxOf (L2.CX P w) P w K mg base N qual (defScope st) f cdv A outer s H0 E) M (args.map some ++ List.replicate (N.length - args.length) none) cs [(dom cs, H0)]
      (wSs (cxOf (L2.CX P w) P w K mg base N qual (defScope st) f cdv A outer s H0 E) (defBody st) { nx := fun _ H' => Q .non H', rt := Q })
theorem fnrO_of (F : Fun K x qual st f fd) (S : FnScope N ps (defScope st)) (hb : Binds K fd ps []) (hl : args.length = ps.length) (body : BodyO P w K mg base qual st f N k args cs res cs') : FnR P w K mg base (L2.CX P w) (k + 1) f (outSp K mg args cs res cs') := by
  have h : FnOk P w K mg base (L2.CX P w) (k + 1) f fd ps (outSp K mg args cs res cs') := F.okX S (fun vs H Q E h => by
    obtain ⟨M, _, r, _⟩ := h
    rw [r.length, hl]) fun cdv A outer s H vs Q E hr h => by
    obtain ⟨M, mt, r, hc, nd, kq⟩ := h
    refine ⟨_, pss_w, body cdv A outer s H E M Q hr (fun p hp => (hc p hp).1) kq _ _ (sit_start mt r hc nd) (fun q hq => ?_) fun q hq a ha => ?_⟩
    · rcases List.mem_singleton.mp hq with rfl
      exact Ext.refl _ _
    · rcases List.mem_singleton.mp hq with rfl
      exact .inl ha
  have h2 := h.raw (ds := []) (dvs := []) hb .nil
  simpa using h2
theorem fn_of' (F : Fun K x qual st f fd) (hm : mg n = some (.ref f)) (S : FnScope N ps (defScope st)) (hb : Binds K fd ps []) (body : BodyO P w K mg base qual st f N k args cs res cs') (hl : args.length = ps.length := by rfl) : Fn P w K mg base n (k + 1) args cs res cs' := ⟨f, hm, F.kp, fnrO_of F S hb hl body⟩
theorem me_of (hC : ∃ C, mg c = some (.ref C) ∧ Cls K C ∧ Meth K C m f) (F : Fun K x qual st f fd) (S : FnScope N ps (defScope st)) (hb : Binds K fd ps []) (body : BodyO P w K mg base qual st f N k args cs res cs') (hl : args.length = ps.length := by rfl) : Me P w K mg base c m (k + 1) args cs res cs' := by
  obtain ⟨C, hm, hc, hmt⟩ := hC
  exact ⟨C, f, hm, hc, hmt, fnrO_of F S hb hl body⟩
theorem pr_of (hC : ∃ C p, mg c = some (.ref C) ∧ Cls K C ∧ PropOf K C m p f) (F : Fun K x qual st f fd) (S : FnScope N ps (defScope st)) (hb : Binds K fd ps []) (body : BodyO P w K mg base qual st f N k args [] res []) (hl : args.length = ps.length := by rfl) : Pr P w K mg base c m (k + 1) args res := by
  obtain ⟨C, p, hm, hc, hp⟩ := hC
  exact ⟨C, p, f, hm, hc, hp, fnrO_of F S hb hl body⟩
theorem du_of (hC : ∃ C, mg c = some (.ref C) ∧ PySem.W.findIn K (.ref C) m = some (some (.ref f)) ∧ PySem.W.isFn K (.ref f) = true) (F : Fun K x qual st f fd) (S : FnScope N ps (defScope st)) (hb : Binds K fd ps []) (body : BodyO P w K mg base qual st f N k args [] res []) (hl : args.length = ps.length := by rfl) : Du P w K mg base c m (k + 1) args res := by
  obtain ⟨C, hm, h1, h2⟩ := hC
  exact ⟨C, f, hm, h1, h2, fnrO_of F S hb hl body⟩
theorem sm_of (hC : ∃ C mc, mg c = some (.ref C) ∧ ClX.CRead K C mc ∧ CStm K C mc m f) (F : Fun K x qual st f fd) (S : FnScope N ps (defScope st)) (hb : Binds K fd ps []) (body : BodyO P w K mg base qual st f N k args cs res cs') (hl : args.length = ps.length := by rfl) : Sm P w K mg base c m (k + 1) args cs res cs' := by
  obtain ⟨C, mc, hm, h1, h2⟩ := hC
  exact ⟨C, mc, f, hm, h1, h2, F.kp, fnrO_of F S hb hl body⟩
end
end Od

set_option Elab.async false
set_option linter.all false
set_option maxRecDepth 100000
set_option maxHeartbeats 4000000
/-! Ol1: a lambda is made: without parameters, or with one parameter whose default is a written int. -/
namespace Od
open PySem L2 LamX PyProof.Rows
abbrev lamFd (L : LamF) (dV : Value) (pm cv ctv : Value) : FuncData := { name := "<lambda>", qualname := L.qual, params := L.params, body := .expr L.body, scope := L.scope, globals := mainGlobals, closure := L.cl, defaults := dV, kwdefaults := .none, doc := .none, pyModule := pm, annotations := none, code := cv, closureTuple := ctv, builtins := builtinsNs }
section
variable {M : Model} {A : Around} {E : Value → Shared → Prop} {s : Shared} {L : LamF} {env : Env} {c P : Addr} {ps : Array Value} {pos : Pos} {fl : Nat} {mg : Str → Option Value} {Q : Value → Shared → Prop} {dV : Value}
theorem tail_new (hcl : closureFor L.scope env = pure L.cl) (hge : env.globals = mainGlobals) (hg : s.heap.Ns mainGlobals mg) (hcode : env.code = .ref c) (C : PySem.W.CodeHd s.heap c P) (hP : s.heap.get? P = some (PySem.W.tabObj ps)) (ht : TriplesOk ps.toList) (hnf : codeAmong pos ps.toList = none) (hgP : mainGlobals ≠ P) (hb : s.heap.BuiltinsAt mg P)
    (h : ∀ c' ctv h' tk, Heap.ExtBut P s.heap h' → s.heap.objs.size ≤ c' → c' < h'.objs.size → h'.CodeRec (.ref c') L.qual → h'.get? P = some (PySem.W.tabObj (ps ++ #[rawInt pos.line, rawInt pos.col, .ref c'])) → Q (.ref h'.objs.size) { s with heap := h'.push { cls := .type "function", data := .func (lamFd L dV ((mg "__name__").getD .none) (.ref c') ctv) }, toks := tk }) :
    wpAny M A (makeTail "<lambda>" L.qual L.params (.expr L.body) L.scope env dV .none none pos fl) Q E s := by
  obtain ⟨bm, ob, hbm, hne0, _, hneP, hbo, hcls, hdict, hdata⟩ := hb
  have go : ∀ (ctv : Value) (hp : Heap) (tk : Tok), (∀ b o, s.heap.get? b = some o → hp.get? b = some o) → s.heap.objs.size ≤ hp.objs.size → hp.Ns mainGlobals mg →
      wpAny M A (functionCode env pos fl "<lambda>" L.qual L.params L.scope (.expr L.body) >>= fun cd => builtinsFor env.globals env.builtins >>= fun bl => nsGet env.globals "__name__" >>= fun nm => (pure Value.none : Sem Value) >>= fun dc =>
        newObj (.type "function") (.func { name := "<lambda>", qualname := L.qual, params := L.params, body := .expr L.body, scope := L.scope, globals := env.globals, closure := L.cl, closureTuple := ctv, code := cd, builtins := bl, defaults := dV, kwdefaults := .none, annotations := none, pyModule := nm.getD .none, doc := dc })) Q E { s with heap := hp, toks := tk } := fun ctv hp tk kp sz hg1 => by
    refine wpAny_bind (wpAny_functionCodeX hcode ((C.keeps kp).code (kp _ _ hP) ht) ((C.keeps kp).tab (kp _ _ hP)) hnf fun c' h' tk' hx hge' hlt _ hrec htb _ => ?_)
    have hg' : h'.Ns mainGlobals mg := hg1.extBut hx hgP
    have hx' : Heap.ExtBut P s.heap h' := fun b o hb' e => hx b o hb' (kp _ _ e)
    rw [hge]
    refine wpAny_bind (wpAny_builtinsFor hg' hbm hne0 (hx' _ _ hneP hbo) hcls hdict hdata (wpAny_bind (wpAny_nsGet hg' (wpAny_bind (wpAny_pure (wpAny_newObj_type ?_ (by size_fits)))))))
    exact h c' ctv h' tk' hx' (Nat.le_trans sz hge') hlt hrec htb.2
  unfold makeTail
  rw [hcl]
  refine wpAny_bind (wpAny_pure ?_)
  cases hz : L.cl.isEmpty with
  | true => exact wpAny_bind (wpAny_pure (by have := go .none s.heap s.toks (fun _ _ e => e) (Nat.le_refl _) hg; exact this))
  | false =>
    simp only [Bool.false_eq_true, if_false]
    refine wpAny_bind (wpAny_newTextTuple ?_)
    exact go _ _ s.toks (fun b o e => Heap.get?_push_of_some _ e) (by rw [Heap.size_push]; exact Nat.le_succ _) (hg.push _)
theorem tail_hit {cv : Value} (hcl : closureFor L.scope env = pure L.cl) (hge : env.globals = mainGlobals) (hg : s.heap.Ns mainGlobals mg) (hcode : env.code = .ref c) (C : PySem.W.CodeHd s.heap c P) (hP : s.heap.get? P = some (PySem.W.tabObj ps)) (ht : TriplesOk ps.toList) (hf : codeAmong pos ps.toList = some cv) (hb : s.heap.BuiltinsAt mg P)
    (h : ∀ (ctv : Value) (h' : Heap) (tk : Tok), (∀ b o, s.heap.get? b = some o → h'.get? b = some o) → s.heap.objs.size ≤ h'.objs.size → Q (.ref h'.objs.size) { s with heap := h'.push { cls := .type "function", data := .func (lamFd L dV ((mg "__name__").getD .none) cv ctv) }, toks := tk }) :
    wpAny M A (makeTail "<lambda>" L.qual L.params (.expr L.body) L.scope env dV .none none pos fl) Q E s := by
  obtain ⟨bm, ob, hbm, hne0, _, hneP, hbo, hcls, hdict, hdata⟩ := hb
  have go : ∀ (ctv : Value) (hp : Heap) (tk : Tok), (∀ b o, s.heap.get? b = some o → hp.get? b = some o) → s.heap.objs.size ≤ hp.objs.size → hp.Ns mainGlobals mg →
      wpAny M A (functionCode env pos fl "<lambda>" L.qual L.params L.scope (.expr L.body) >>= fun cd => builtinsFor env.globals env.builtins >>= fun bl => nsGet env.globals "__name__" >>= fun nm => (pure Value.none : Sem Value) >>= fun dc =>
        newObj (.type "function") (.func { name := "<lambda>", qualname := L.qual, params := L.params, body := .expr L.body, scope := L.scope, globals := env.globals, closure := L.cl, closureTuple := ctv, code := cd, builtins := bl, defaults := dV, kwdefaults := .none, annotations := none, pyModule := nm.getD .none, doc := dc })) Q E { s with heap := hp, toks := tk } := fun ctv hp tk kp sz hg1 => by
    refine wpAny_bind (wpAny_functionCode_hit hcode ((C.keeps kp).code (kp _ _ hP) ht) hf ?_)
    rw [hge]
    refine wpAny_bind (wpAny_builtinsFor hg1 hbm hne0 (kp _ _ hbo) hcls hdict hdata (wpAny_bind (wpAny_nsGet hg1 (wpAny_bind (wpAny_pure (wpAny_newObj_type ?_ (by size_fits)))))))
    exact h ctv hp tk kp sz
  unfold makeTail
  rw [hcl]
  refine wpAny_bind (wpAny_pure ?_)
  cases hz : L.cl.isEmpty with
  | true => exact wpAny_bind (wpAny_pure (by have := go .none s.heap s.toks (fun _ _ e => e) (Nat.le_refl _) hg; exact this))
  | false =>
    simp only [Bool.false_eq_true, if_false]
    refine wpAny_bind (wpAny_newTextTuple ?_)
    exact go _ _ s.toks (fun b o e => Heap.get?_push_of_some _ e) (by rw [Heap.size_push]; exact Nat.le_succ _) (hg.push _)
end
section
variable {X : Cx} {pins : List (Addr × Obj)} {σ : L2.St} {H : Hp} {s : Shared}
theorem lamO_ok {f c' : Addr} {L : LamF} {dV pm ctv : Value} {h : Heap} (e : h.get? f = some ({ cls := .type "function", data := .func (lamFd L dV pm (.ref c') ctv) } : Obj)) : ObjOk X.prog X.w H h f (LamO f L dV c') :=
  ⟨⟨pm, ctv, e⟩, ⟨_, e⟩, fun h1 h2 ⟨pm, ctv, z⟩ st => ⟨pm, ctv, st _ z⟩⟩
/-- the table at P: its codes, not marked, bear the name q -/
def TabM (M : Addr → Prop) (H : Hp) (P : Addr) (q : Str) : Prop := ∃ ps : Array Value, H P = some (.tbl ps) ∧ TriplesOk ps.toList ∧ ∀ (pos : Pos) (cv : Value), codeAmong pos ps.toList = some cv → ∃ c, cv = .ref c ∧ ¬ M c ∧ H c = some (LamX.CodeO c q)
theorem lam_fin {M : Addr → Prop} {c P : Addr} {L : LamF} {dV : Value} {pos : Pos} {E : Value → Shared → Prop} {Q : Value → Shared → Prop} (I : Inv X pins σ H s) (mt : ∀ a, M a → H a ≠ none) (TB : TabB X.base X.mg c P) (hcode : X.env.code = .ref c) (hq : L.qual = X.env.qual ++ "<lambda>") (hT : TabM M H P L.qual)
    (hcl : L.cl = cloFrom X.env.cells L.scope.names []) (hfree : ∀ y ∈ L.scope.names, y.2 = .free → ∃ c, X.env.cells.lookup y.1 = some c)
    (h : ∀ (f c' : Addr) (H1 : Hp) (s' : Shared), Inv X pins σ H1 s' → (∀ b o, H b = some o → b ≠ P → H1 b = some o) → (∀ a, M a → H1 a ≠ none) → TabM M H1 P L.qual → H f = none → H1 f = some (LamO f L dV c') → ¬ M c' → H1 c' = some (CodeO c' L.qual) → Q (.ref f) s') :
    wpAny (model X.prog X.w) X.A (makeTail "<lambda>" L.qual L.params (.expr L.body) L.scope X.env dV .none none pos pos.line) Q E s := by
  obtain ⟨ps, hP, ht, ha⟩ := hT
  have bP : s.heap.BuiltinsAt X.mg P := TB.bm.keeps I.bk
  have hP' : s.heap.get? P = some (PySem.W.tabObj ps) := I.hok P _ hP
  have hclo : closureFor L.scope X.env = pure L.cl := by rw [hcl]; exact closure_ok hfree
  cases hc : codeAmong pos ps.toList with
  | none =>
    refine tail_new hclo I.ok.glob (I.mod.glob.keeps I.bk) hcode (TB.code.keeps I.bk) hP' ht hc TB.gP bP fun c' ctv h' tk hx hge hlt hrec htb => ?_
    obtain ⟨c2, oc, vs, t, e2, hoc, hd, hv⟩ := hrec
    cases e2
    have nC : H c' = none := I.hok.fresh hge
    have I1 := inv_table (q := L.qual) (t' := tk) (more := #[rawInt pos.line, rawInt pos.col, .ref c']) (h' := h') I hP (fun b o hb e => hx b o hb e) htb hge ⟨oc, vs, t, hoc, hd, hv⟩
    generalize hH1 : upd (upd H P (.tbl (ps ++ #[rawInt pos.line, rawInt pos.col, .ref c']))) c' (CodeO c' L.qual) = H1 at I1
    have nF : H1 h'.objs.size = none := I1.hok.fresh (Nat.le_refl _)
    have e1 : (h'.push ({ cls := .type "function", data := .func (lamFd L dV ((X.mg "__name__").getD .none) (.ref c') ctv) } : Obj)).get? h'.objs.size = some ({ cls := .type "function", data := .func (lamFd L dV ((X.mg "__name__").getD .none) (.ref c') ctv) } : Obj) := Heap.get?_push_size _ rfl
    have I2 := I1.laid (t' := tk) (a := h'.objs.size) (o := LamO h'.objs.size L dV c') (fun b u e => Heap.get?_push_of_some _ e) (Nat.le_refl _) (lamO_ok e1)
    have keep1 : ∀ b o, H b = some o → b ≠ P → H1 b = some o := fun b o e n => by rw [← hH1, upd_ne (ne_of_none e nC), upd_ne n]; exact e
    have fne : h'.objs.size ≠ c' := Nat.ne_of_gt hlt
    have nfP : h'.objs.size ≠ P := Nat.ne_of_gt (Heap.lt_size htb)
    have nM : ¬ M c' := fun m => mt c' m nC
    have atc : upd H1 h'.objs.size (LamO h'.objs.size L dV c') c' = some (CodeO c' L.qual) := by rw [upd_ne (Ne.symm fne), ← hH1, upd_same]
    have keep2 : ∀ b o, H b = some o → b ≠ P → upd H1 h'.objs.size (LamO h'.objs.size L dV c') b = some o := fun b o e n => (upd_ne (ne_of_none (keep1 b o e n) nF)).trans (keep1 b o e n)
    have atP : upd H1 h'.objs.size (LamO h'.objs.size L dV c') P = some (.tbl (ps ++ #[rawInt pos.line, rawInt pos.col, .ref c'])) := by rw [upd_ne (Ne.symm nfP), ← hH1, upd_ne (ne_of_none hP nC), upd_same]
    have eL : (ps ++ #[rawInt pos.line, rawInt pos.col, .ref c']).toList = ps.toList ++ [rawInt pos.line, rawInt pos.col, .ref c'] := by simp
    refine h h'.objs.size c' _ _ I2 keep2 (fun a m => ?_) ⟨_, atP, by rw [eL]; exact PySem.TriplesOk_snoc _ _ _ _ ht, fun p' cv hcv => ?_⟩ (I.hok.fresh (Nat.le_trans hge (Nat.le_of_lt hlt))) upd_same nM atc
    · by_cases hb : a = P
      · rw [hb, atP]; simp
      · cases q : H a with
        | none => exact absurd q (mt a m)
        | some o => rw [keep2 a o q hb]; simp
    · rw [eL] at hcv
      rcases LamX.among_app _ ht hcv with z | z
      · obtain ⟨c0, e1, n0, e2⟩ := ha p' cv z
        exact ⟨c0, e1, n0, keep2 _ _ e2 fun z => by rw [z, hP] at e2; exact codeO_ne ps (Option.some.inj e2).symm⟩
      · exact ⟨c', z, nM, atc⟩
  | some cv =>
    obtain ⟨c', e, nM, hco⟩ := ha pos cv hc
    subst e
    refine tail_hit hclo I.ok.glob (I.mod.glob.keeps I.bk) hcode (TB.code.keeps I.bk) hP' ht hc bP fun ctv h' tk hx hsz => ?_
    have I1 : Inv X pins σ H { s with heap := h', toks := tk } := I.kept hx
    have nF : H h'.objs.size = none := I1.hok.fresh (Nat.le_refl _)
    have e1 : (h'.push ({ cls := .type "function", data := .func (lamFd L dV ((X.mg "__name__").getD .none) (.ref c') ctv) } : Obj)).get? h'.objs.size = some ({ cls := .type "function", data := .func (lamFd L dV ((X.mg "__name__").getD .none) (.ref c') ctv) } : Obj) := Heap.get?_push_size _ rfl
    have I2 := I1.laid (t' := tk) (a := h'.objs.size) (o := LamO h'.objs.size L dV c') (fun b u e => Heap.get?_push_of_some _ e) (Nat.le_refl _) (lamO_ok e1)
    have keep2 : ∀ b o, H b = some o → upd H h'.objs.size (LamO h'.objs.size L dV c') b = some o := fun b o e => (upd_ne (ne_of_none e nF)).trans e
    refine h h'.objs.size c' _ _ I2 (fun b o e _ => keep2 b o e) (fun a m => ?_) ⟨ps, keep2 _ _ hP, ht, fun p' cv hcv => ?_⟩ nF upd_same nM (keep2 _ _ hco)
    · cases q : H a with
      | none => exact absurd q (mt a m)
      | some o => rw [keep2 a o q]; simp
    · obtain ⟨c0, e1, n0, e2⟩ := ha p' cv hcv
      exact ⟨c0, e1, n0, keep2 _ _ e2⟩
end
/-- where lambdas are made: the code object at c, its table at P -/
structure LamAt (X : Cx) (c P : Addr) : Prop where
  tb : TabB X.base X.mg c P
  code : X.env.code = .ref c
section
variable {X : Cx} {M : Addr → Prop} {e : DE} {cs : Cs} {params : Arguments} {body : Expr} {scope : Scope} {lpos : Pos} {c P : Addr} {q : Str}
abbrev lamOf (X : Cx) (q : Str) (params : Arguments) (body : Expr) (scope : Scope) (dvs : List Int) : LamF := ⟨q, params, body, scope, cloFrom X.env.cells scope.names [], dvs⟩
theorem sit_lam {σ : L2.St} {H H1 : Hp} {L : LamF} {dV : Value} {f c' : Addr} (S : Sit X.K X.mg M σ H e cs) (hin : (P, MC.tab q) ∈ cs) (kp : ∀ b o, H b = some o → b ≠ P → H1 b = some o) (mt : ∀ a, M a → H1 a ≠ none) (hT : TabM M H1 P q) (nf : H f = none) (hf : H1 f = some (LamO f L dV c')) (nc : ¬ M c') (hc : H1 c' = some (CodeO c' L.qual)) (hd : (L.dvs = [] ∧ dV = .none) ∨ ∃ t, dV = .ref t ∧ ¬ M t ∧ H1 t = some (.tup (L.dvs.map V.int))) :
    Sit X.K X.mg M σ H1 e cs ∧ Ext (dom cs) H H1 ∧ R X.K X.mg M H1 (.ref f) (.lam L) := by
  have mP : M P := (S.cel _ hin).1
  have x1 : Ext (dom cs) H H1 := fun a o h n => kp a o h fun z => n (by rw [z]; exact List.mem_map_of_mem (f := (·.1)) hin)
  refine ⟨S.step rfl x1 mt fun p hp => ?_, x1, by unfold R; exact ⟨f, c', dV, rfl, fun m => S.mt f m nf, hf, nc, hc, hd⟩⟩
  obtain ⟨mp, cp⟩ := S.cel p hp
  refine ⟨mp, ?_⟩
  by_cases h : p.1 = P
  · have hpe : p = (P, MC.tab q) := by
      have nd := S.nd
      obtain ⟨pa, pc⟩ := p
      simp only at h
      subst h
      have hinj : ∀ {l : Cs}, (l.map (·.1)).Nodup → (pa, pc) ∈ l → (pa, MC.tab q) ∈ l → pc = MC.tab q := by
        intro l
        induction l with
        | nil => intro _ h; cases h
        | cons z r ih =>
          intro nd h1 h2
          rw [List.map_cons, List.nodup_cons] at nd
          rcases List.mem_cons.mp h1 with e1 | e1
          · rcases List.mem_cons.mp h2 with e2 | e2
            · rw [← e1] at e2
              exact (congrArg Prod.snd e2).symm
            · exact absurd (by rw [← e1]; exact List.mem_map_of_mem (f := (·.1)) e2) nd.1
          · rcases List.mem_cons.mp h2 with e2 | e2
            · exact absurd (by rw [← e2]; exact List.mem_map_of_mem (f := (·.1)) e1) nd.1
            · exact ih nd.2 e1 e2
      rw [hinj nd hp hin]
    subst hpe
    exact hT
  · exact cp.ext (fun a o nm h => kp a o h fun z => nm (by rw [z]; exact mP)) (fun _ n _ => n) fun o h' => kp _ _ h' h
theorem tab_m {σ : L2.St} {H : Hp} (S : Sit X.K X.mg M σ H e cs) (hin : (P, MC.tab q) ∈ cs) : TabM M H P q := (S.cel _ hin).2
/-- lambda: body -/
theorem e_lam0 (T : LamAt X c P) (hin : (P, MC.tab q) ∈ cs) (hq : q = X.env.qual ++ "<lambda>") (hfree : ∀ y ∈ scope.names, y.2 = .free → X.env.scope.names.lookup y.1 = some .cell ∨ X.env.scope.names.lookup y.1 = some .free) (hdef : defaultsOf params X.env = ([], []) := by rfl) :
    EE X M e cs (.Lambda params body scope lpos) (.lam (lamOf X q params body scope [])) cs where
  dm := rfl
  k := fun σ H Q S k pins s I => by
    have hfr : ∀ y ∈ scope.names, y.2 = .free → ∃ c, X.env.cells.lookup y.1 = some c := fun y hy e => (hfree y hy e).elim (fun z => I.ok.has _ (.inl z)) fun z => I.ok.has _ (.inr z)
    refine PySem.W.kla_eval hdef ?_
    rw [makeFunction_eq]
    simp only [List.zip_nil_right, List.filterMap_nil, List.isEmpty_nil, if_true, pure_bind]
    rw [← hq]
    refine lam_fin (L := lamOf X q params body scope []) I S.mt T.tb T.code hq (tab_m S hin) rfl hfr fun f c' H1 s' I1 kp mt hT nf hf nc hc => ?_
    obtain ⟨S1, x1, r1⟩ := sit_lam S hin kp mt hT nf hf nc hc (.inl ⟨rfl, rfl⟩)
    exact ⟨.ref f, H1, I1, rfl, k _ _ S1 x1 r1⟩
/-- lambda a=i: body -/
theorem e_lam1 {i : Int} {kk : Nat} {ip : Pos} (T : LamAt X c P) (hin : (P, MC.tab q) ∈ cs) (hq : q = X.env.qual ++ "<lambda>") (hfree : ∀ y ∈ scope.names, y.2 = .free → X.env.scope.names.lookup y.1 = some .cell ∨ X.env.scope.names.lookup y.1 = some .free) (hdef : defaultsOf params X.env = ([eval (.Constant (.int i) kk ip) X.env], []) := by rfl) (hkw : params.kwonlyargs = [] := by rfl) :
    EE X M e cs (.Lambda params body scope lpos) (.lam (lamOf X q params body scope [i])) cs where
  dm := rfl
  k := fun σ H Q S k pins s I => by
    have hfr : ∀ y ∈ scope.names, y.2 = .free → ∃ c, X.env.cells.lookup y.1 = some c := fun y hy e => (hfree y hy e).elim (fun z => I.ok.has _ (.inl z)) fun z => I.ok.has _ (.inr z)
    rw [arm_eval_Lambda, hdef]
    show wpAny _ _ (evalAll [eval (.Constant (.int i) kk ip) X.env] >>= fun dv => holding dv (evalAllOpt []) >>= fun kdv => makeFunction "<lambda>" (X.env.qual ++ "<lambda>") params (.expr body) scope X.env dv kdv [] lpos lpos.line) _ _ _
    refine wpAny_bind (wpAny_bind (wpAny_Constant_int (wpAny_bind (wpAny_holding (wpAny_pure (wpAny_pure (wpAny_bind (wpAny_holding (wpAny_pure ?_)))))))))
    rw [makeFunction_eq]
    simp only [hkw, List.zip_nil_left, List.filterMap_nil, List.isEmpty_nil, List.isEmpty_cons, Bool.false_eq_true, if_false, if_true, pure_bind]
    refine wpAny_bind (wpAny_newTextTuple ?_)
    have I0 : Inv X pins σ H { s with toks := s.toks + 1 } := I.tok _
    have et : (s.heap.push { cls := .type "tuple", data := .seq ([Value.int i s.toks] : List Value).toArray }).get? s.heap.objs.size = some { cls := .type "tuple", data := .seq ([Value.int i s.toks] : List Value).toArray } := Heap.get?_push_size _ rfl
    have nT : H s.heap.objs.size = none := I.hok.fresh (Nat.le_refl _)
    have IT : Inv X pins σ (upd H s.heap.objs.size (.tup [V.int i])) { s with heap := s.heap.push { cls := .type "tuple", data := .seq ([Value.int i s.toks] : List Value).toArray }, toks := s.toks + 1 } :=
      I.laid (t' := s.toks + 1) (a := s.heap.objs.size) (o := .tup [V.int i]) (fun b o e => Heap.get?_push_of_some _ e) (Nat.le_refl _) ⟨by rw [sizeLine_eq]; exact (by decide : 1 ≤ 16777216), [Value.int i s.toks], .cons ⟨_, rfl⟩ .nil, _, et, rfl, _, rfl⟩
    have ST := S.ex (Ext.new (A := []) (o := .tup [V.int i]) nT)
    rw [← hq]
    refine lam_fin (L := lamOf X q params body scope [i]) IT ST.mt T.tb T.code hq (tab_m ST hin) rfl hfr fun f c' H1 s' I1 kp mt hT nf hf nc hc => ?_
    have nMt : ¬ M s.heap.objs.size := fun m => S.mt _ m nT
    obtain ⟨S1, x1, r1⟩ := sit_lam ST hin kp mt hT nf hf nc hc (.inr ⟨s.heap.objs.size, rfl, nMt, kp _ _ upd_same fun z => nMt (by rw [z]; exact (S.cel _ hin).1)⟩)
    exact ⟨.ref f, H1, I1, rfl, k _ _ S1 ((Ext.new nT).trans x1) r1⟩
end
end Od

set_option Elab.async false
set_option linter.all false
set_option maxRecDepth 100000
set_option maxHeartbeats 4000000
/-! Ol2: a lambda is called: what its body gives or raises, from what the captured cells hold. -/
namespace Od
open PySem L2 LamX PyProof.Rows NdefX
theorem bind1 {M : Model} {A : Around} {E : Value → Shared → Prop} {s : Shared} {fd : FuncData} {ar : Arg} {t : Addr} {v : Value} {o : Obj} {n : Nat} {Q : List (Str × Value) → Shared → Prop} (h1 : fd.params.posonlyargs = []) (h2 : fd.params.args = [ar]) (h3 : fd.params.vararg = none) (h4 : fd.params.kwonlyargs = []) (h5 : fd.params.kwarg = none) (hd : fd.defaults = .ref t)
    (ho : s.heap.get? t = some o) (hs : o.data = .seq #[v] n) (h : Q [(ar.arg, v)] s) : wpAny M A (bindArgs fd ⟨[], []⟩) Q E s := by
  unfold bindArgs
  simp only [h1, h2, h3, h4, h5, hd, List.map_nil, List.map_cons, List.nil_append, List.append_nil, List.length_cons, List.length_nil, List.zip_nil_right, List.forIn_nil, pure_bind]
  refine wpAny_bind (wpAny_seqItems ho hs ?_)
  simp
  exact wpAny_pure h
theorem bind0 {M : Model} {A : Around} {E : Value → Shared → Prop} {s : Shared} {fd : FuncData} {Q : List (Str × Value) → Shared → Prop} (h1 : fd.params.posonlyargs = []) (h2 : fd.params.args = []) (h3 : fd.params.vararg = none) (h4 : fd.params.kwonlyargs = []) (h5 : fd.params.kwarg = none) (hd : fd.defaults = .none)
    (h : Q [] s) : wpAny M A (bindArgs fd ⟨[], []⟩) Q E s := by
  unfold bindArgs
  simp only [h1, h2, h3, h4, h5, hd, List.map_nil, List.nil_append, List.append_nil, List.length_nil, List.zip_nil_right, List.forIn_nil, pure_bind]
  refine wpAny_bind (m := seqItems? Value.none) (wpAny_pure ?_)
  simp
  exact wpAny_pure h
/-- the lambda's words: plain parameters alone, as many as there are defaults (none or one) -/
structure LamW (L : LamF) (ps : List Str) : Prop where
  pos : L.params.posonlyargs = []
  var : L.params.vararg = none
  kwo : L.params.kwonlyargs = []
  kwa : L.params.kwarg = none
  args : (L.params.args = [] ∧ L.dvs = [] ∧ ps = []) ∨ ∃ ar i, L.params.args = [ar] ∧ L.dvs = [i] ∧ ps = [ar.arg]
abbrev nfOf (L : LamF) (c' : Addr) : NF := ⟨"<lambda>", L.qual, L.params, [], L.scope, L.cl, c'⟩
/-- the context of a lambda's body -/
abbrev lcx (P : Program) (w : World) (K : PySem.W.Frag) (mg : Str → Option Value) (base : Heap) (N : List Str) (L : LamF) (c' f : Addr) (A : Around) (outer : List Env) (s : Shared) (H : Hp) (E : XK) : Cx := ncx (L2.CX P w) P w K mg base N (nfOf L c') f A outer s H E
section
variable {P : Program} {w : World} {K : PySem.W.Frag} {mg : Str → Option Value} {base : Heap} {N ps fr : List Str} {L : LamF} {f c' : Addr} {k : Nat} {dV : Value}
theorem lam_run {A : Around} {outer : List Env} {s : Shared} {H : Hp} {ws : List (Option V)} {Q : VK} {E : XK} (S : NScope N ps fr L.scope) (W : LamW L ps) (hr : Room (k + 1) A) (e0 : Env0 P w K mg base A outer s H) (hf : H f = some (LamO f L dV c')) (hc : H c' = some (CodeO c' L.qual))
    (hd : (L.dvs = [] ∧ dV = .none) ∨ ∃ t, dV = .ref t ∧ H t = some (.tup (L.dvs.map V.int))) (C : CellsAt L.cl fr ws s.heap H)
    (hbody : Room k (A.deeper (envF (nfOf L c') f s.heap.objs.size)) → wE (lcx P w K mg base N L c' f A outer s H E) L.body (startF N (L.dvs.map V.int) ws) H Q) :
    codeAny (model P w) A (.call (.ref f) ⟨[], []⟩) (CR (L2.CX P w) outer P w H s Q E) s := by
  have lim : s.heap.NoLimit := e0.mod.nolimit.keeps fun b o e => (e0.bs b o e).1
  obtain ⟨⟨pm, ctv, ho⟩, _, _⟩ := e0.hok f _ hf
  refine PySem.W.kla_callFunE hr.depth ho rfl S.co S.gen rfl (codeO_at e0.hok hc) ?_
  have main : ∀ us : List Value, Vals (L.dvs.map V.int) us → (L.dvs.map V.int).length = ps.length → wpAny (model P w) A.in1 (newFunctionEnv L.scope mainGlobals L.cl (ps.zip us) (L.qual ++ ".<locals>.") (some f) (.ref c') none builtinsNs)
      (fun env s₂ => s₂.heap.NoLimit ∧ codeAny (model P w) A (.expr L.body env) (CR (L2.CX P w) outer P w H s Q E) s₂) (fun e s' => CR (L2.CX P w) outer P w H s Q E (.error e) s') s := fun us r hl => by
    refine wpAny_newFunctionEnv S.nocell (fun ⟨n, _⟩ hy => S.par n (List.of_mem_zip hy).1) (fun h₁ hns hsb => ⟨lim.fresh _ hsb, ?_⟩) S.kind
    show codeAny _ _ (.expr L.body (envF (nfOf L c') f s.heap.objs.size)) _ _
    have kp : ∀ b o, s.heap.get? b = some o → h₁.get? b = some o := fun b o e => hsb.extBut b o (Nat.ne_of_lt (Heap.lt_size e)) (Heap.get?_push_of_some _ e)
    have I : Inv (lcx P w K mg base N L c' f A outer s H E) [] (startF N (L.dvs.map V.int) ws) H { s with heap := h₁, toks := s.toks + (ps.zip us).length } := inv_startN (F := nfOf L c') S hr.hd e0 hl r C hns kp
    refine PySem.W.kla_codeExpr (wpAny_mono (hbody (hr.deeper _) [] _ I) (fun v s' hq => ?_) fun e s' hq => hq)
    obtain ⟨w', H', J', rv, q⟩ := hq
    exact ⟨w', H', J'.os, J'.bare, J'.base, J'.hok, rv, q⟩
  rcases W.args with ⟨a1, a2, rfl⟩ | ⟨ar, i, a1, a2, rfl⟩
  · rcases hd with ⟨_, rfl⟩ | ⟨t, _, ht⟩
    · refine bind0 W.pos a1 W.var W.kwo W.kwa rfl ?_
      rw [a2] at main
      exact main [] .nil rfl
    · rename_i hdd _
      have hno : dV = .ref t := by assumption
      subst hno
      -- (a tuple of no defaults is never made)
      obtain ⟨hz, its, rv, oT, hoT, hcT, n, hdT⟩ := (show ObjOk P w H s.heap t (.tup (L.dvs.map V.int)) from e0.hok t _ ht)
      rw [a2] at rv
      cases rv
      unfold bindArgs
      simp only [W.pos, a1, W.var, W.kwo, W.kwa, List.map_nil, List.nil_append, List.append_nil, List.length_nil, List.zip_nil_right, List.forIn_nil, pure_bind]
      refine wpAny_bind (wpAny_seqItems hoT hdT ?_)
      simp
      refine wpAny_pure ?_
      rw [a2] at main
      exact main [] .nil rfl
  · rcases hd with ⟨z, _⟩ | ⟨t, rfl, ht⟩
    · rw [a2] at z; cases z
    · obtain ⟨hz, its, rv, oT, hoT, hcT, n, hdT⟩ := (show ObjOk P w H s.heap t (.tup (L.dvs.map V.int)) from e0.hok t _ ht)
      rw [a2] at rv main
      cases rv with
      | @cons _ u _ ur ra rn =>
        cases rn
        refine bind1 W.pos a1 W.var W.kwo W.kwa rfl hoT hdT ?_
        exact main [u] (.cons ra .nil) rfl
end
/-! ### what a lambda does -/
/-- el: what is known of the captured names; cs: the things that may change -/
structure LamOk (P : Program) (w : World) (K : PySem.W.Frag) (mg : Str → Option Value) (base : Heap) (k : Nat) (L : LamF) (fr : List Str) (M : Addr → Prop) (el : DE) (cs : Cs) (out : Out) (cs' : Cs) : Prop where
  ex : ∃ N ps, NScope N ps fr L.scope ∧ LamW L ps ∧ el.length = fr.length ∧ ∀ (A : Around) (outer : List Env) (s : Shared) (H : Hp) (E : XK) (f c' : Addr), Room k (A.deeper (envF (nfOf L c') f s.heap.objs.size)) →
    match out with
    | .ok d => EE (lcx P w K mg base N L c' f A outer s H E) M (L.dvs.map (fun i => some (.int i)) ++ (el ++ List.replicate (N.length - L.dvs.length - el.length) none)) cs L.body d cs'
    | .err x => EX (lcx P w K mg base N L c' f A outer s H E) M (L.dvs.map (fun i => some (.int i)) ++ (el ++ List.replicate (N.length - L.dvs.length - el.length) none)) cs L.body x cs'
/-- what the cells hold bears the data el -/
structure Holds (K : PySem.W.Frag) (mg : Str → Option Value) (M : Addr → Prop) (H : Hp) (el : DE) (ws : List (Option V)) : Prop where
  len : ws.length = el.length
  at_ : ∀ (i : Nat) (d : D), el[i]? = some (some d) → ∃ v, ws[i]? = some (some v) ∧ R K mg M H v d
theorem Holds.ext {K : PySem.W.Frag} {mg : Str → Option Value} {M M' : Addr → Prop} {H H' : Hp} {el : DE} {ws : List (Option V)} (h : Holds K mg M H el ws) (k : ∀ a o, ¬ M a → H a = some o → H' a = some o) (m : ∀ a, ¬ M a → H a ≠ none → ¬ M' a) : Holds K mg M' H' el ws :=
  ⟨h.len, fun i d q => by
    obtain ⟨v, e, r⟩ := h.at_ i d q
    exact ⟨v, e, R.ext k m _ r⟩⟩
section
variable {P : Program} {w : World} {K : PySem.W.Frag} {mg : Str → Option Value} {base : Heap} {L : LamF} {fr : List Str} {M : Addr → Prop} {el : DE} {cs cs' : Cs} {k : Nat}
theorem sit_lamstart {H : Hp} {N : List Str} {ws : List (Option V)} (mt : ∀ a, M a → H a ≠ none) (hw : Holds K mg M H el ws) (cel : ∀ p ∈ cs, M p.1 ∧ Cell K mg M H p.1 p.2) (nd : (dom cs).Nodup) :
    Sit K mg M (startF N (L.dvs.map V.int) ws) H (L.dvs.map (fun i => some (.int i)) ++ (el ++ List.replicate (N.length - L.dvs.length - el.length) none)) cs where
  mt := mt
  len := by
    have := hw.len
    simp [startF, this]
  env := fun i d q => by
    unfold startF
    by_cases h1 : i < L.dvs.length
    · rw [List.getElem?_append_left (by simpa using h1)] at q ⊢
      · rw [List.getElem?_map] at q
        cases e : L.dvs[i]? with
        | none => rw [e] at q; cases q
        | some z =>
          rw [e] at q
          cases q
          exact ⟨.int z, by simp [e], by simp [R]⟩
    · rw [List.getElem?_append_right (by simpa using h1)] at q ⊢
      · simp only [List.length_map] at q ⊢
        by_cases h2 : i - L.dvs.length < el.length
        · rw [List.getElem?_append_left h2] at q
          rw [List.getElem?_append_left (by rw [hw.len]; exact h2)]
          exact hw.at_ _ d q
        · rw [List.getElem?_append_right (by omega), List.getElem?_replicate] at q
          split at q <;> cases q
  cel := cel
  nd := nd
/-- the call of a lambda, its cells as they are -/
theorem lam_call {v : V} {A : Around} {outer : List Env} {s : Shared} {H : Hp} {ws : List (Option V)} {Q : VK} {E : XK} {out : Out} (F : LamOk P w K mg base k L fr M el cs out cs') (hr : Room (k + 1) A) (e0 : Env0 P w K mg base A outer s H) (hl : Lams M H v L) (C : CellsAt L.cl fr ws s.heap H) (hw : Holds K mg M H el ws)
    (mt : ∀ a, M a → H a ≠ none) (cel : ∀ p ∈ cs, M p.1 ∧ Cell K mg M H p.1 p.2) (nd : (dom cs).Nodup) (hM : ∀ p ∈ cs', M p.1) (kq : OutK K mg M (dom cs) H cs' Q E out) :
    ∃ f, v = .ref f ∧ codeAny (model P w) A (.call (.ref f) ⟨[], []⟩) (CR (L2.CX P w) outer P w H s Q E) s := by
  obtain ⟨N, ps, S, W, le, F⟩ := F.ex
  obtain ⟨f, c', dV, rfl, _, hf, _, hc, hd⟩ := hl
  refine ⟨f, rfl, lam_run S W hr e0 hf hc (hd.imp_right fun ⟨t, a, _, b⟩ => ⟨t, a, b⟩) C fun hr2 => ?_⟩
  have F2 := F A outer s H E f c' hr2
  have ST := sit_lamstart (N := N) (L := L) mt hw cel nd
  cases out with
  | ok d => exact F2.k _ H Q ST fun v H' S1 x1 r1 => kq v H' S1.mt x1 (fun p hp => S1.cel p hp) r1
  | err x => exact F2.k _ H (fun cls d _ H => E cls d H) Q (takes_of rfl rfl rfl rfl) ST fun cls d H' S1 x1 r1 => kq cls d H' S1.mt x1 (fun p hp => S1.cel p hp) r1
end
end Od

set_option Elab.async false
set_option linter.all false
set_option maxRecDepth 100000
set_option maxHeartbeats 4000000
/-! Ol3: try .. except (A, B, C) as n; calls within the except suite; fields of the caught error. -/
namespace Od
open PySem L2 L2H PyProof.Rows
/-- what such a clause wishes of an error of the body -/
def wT3 (K : PySem.W.Frag) (cs : List Value) (i : Nat) (ts : Addr → Value → Option Addr → TS) (Wout : WX) (D : Ends) : WX := fun cls d σ H =>
  ∃ b, PySem.W.exmAny K cls cs = some b ∧ (b = true → ∀ a, H a = none → ts a cls d { nx := fun σ' H' => D.nx (σ'.set i none) H', rt := D.rt, bk := fun σ' H' => D.bk (σ'.set i none) H', ct := fun σ' H' => D.ct (σ'.set i none) H' } (σ.set i (some (.ref a))) H) ∧ (b = false → Wout cls d σ H)
section
variable {X : Cx} {x1 x2 x3 n : Str} {C1 C2 C3 : Addr} {i : Nat} {body suite : List Stmt} {b₀ : Stmt} {p1 p2 p3 tp pos pos' : Pos} {kk : Nat} {tb : WX → TS} {ts : Addr → Value → Option Addr → TS} {Wout : WX}
abbrev hand3 (x1 x2 x3 n : Str) (p1 p2 p3 tp pos' : Pos) (kk : Nat) (suite : List Stmt) : ExceptHandler := .ExceptHandler (some (.Tuple [.Name x1 p1, .Name x2 p2, .Name x3 p3] kk tp)) (some n) suite pos'
/-- a class of the module's that a clause names -/
structure Nm (X : Cx) (x : Str) (C : Addr) : Prop where
  gl : Gl X x
  db : (x == ("__debug__" : Str)) = false
  mg : X.mg x = some (.ref C)
theorem ps_try3 (hs : X.stack = X.env :: X.outer) (hf : X.env.frame = some X.env.locals) (hN : X.N.Nodup) (hi : X.N[i]? = some n) (hln : X.env.kindOf n = some .local) (n1 : Nm X x1 C1) (n2 : Nm X x2 C2) (n3 : Nm X x3 C3) (tk : Takes X Wout)
    (hst : ∀ E : Env, starEach [.Name x1 p1, .Name x2 p2, .Name x3 p3] E = [(false, eval (.Name x1 p1) E), (false, eval (.Name x2 p2) E), (false, eval (.Name x3 p3) E)])
    (hb : ∀ (W : WX) (pn : List (Addr × Obj)) (xe : Value → Shared → Prop), Takes (X.tr pn xe) W → PassesOwn (model X.prog X.w) X.A X.env xe → PSs (X.tr pn xe) body (tb W))
    (hsu : ∀ (a : Addr) (oe : Obj) (cls : Value) (d : Option Addr) (pn : List (Addr × Obj)), Zc cls d oe → (∃ vs, oe.data = .fields vs) → PSs (X.suite a ((a, oe) :: pn)) (b₀ :: suite) (ts a cls d)) :
    PS X (.Try body [hand3 x1 x2 x3 n p1 p2 p3 tp pos' kk (b₀ :: suite)] [] [] pos) (fun D σ H => tb (wT3 X.K [.ref C1, .ref C2, .ref C3] i ts Wout D) D σ H) := by
  refine ⟨fun pins s σ H D I h => ?_⟩
  have ok := I.ok
  have hfr : X.A.frames = some (X.env :: X.outer) := ok.frames.trans (by rw [hs])
  refine wpAny_Try_except (wpAny_mono ((hb (wT3 X.K [.ref C1, .ref C2, .ref C3] i ts Wout D) (X.pn ++ pins) (fun e s₁ => wpAny (model X.prog X.w) X.A (noteFrame e X.env) (fun _ s₂ => wpAny (model X.prog X.w) X.A (setFlight e none) (fun _ s₃ =>
    wpAny (model X.prog X.w) X.A (handleBy e X.env [hand3 x1 x2 x3 n p1 p2 p3 tp pos' kk (b₀ :: suite)]) (SP X pins D) X.xe s₃) X.xe s₂) X.xe s₁) (fun u s' xx => ?_) PassesOwn.looking).run [] s σ H D (I.toTry _) h) (fun f s1 hsp => ?_) (fun e s1 he => he))
  · obtain ⟨a, B, sI, pins', σ', H', cls, d, rfl, J', nb, up, sky, na, os, ag, b, hb1, hyes, hno⟩ := xx
    have J : Inv X pins σ' H' sI := J'.ofTry ok
    have sky' : Sky B (X.env :: X.outer) a (Zc cls d) X.env.locals s'.heap := hs ▸ sky
    show wpAny (model X.prog X.w) X.A (noteFrame (.ref a) X.env) _ _ _
    refine Sky.land Zc.steady hfr hf sky' fun h3 fl3 up3 => ?_
    obtain ⟨oe3, vs3, he3, hz3, hd3⟩ := fl3.there
    have nfr : a ∉ frs (X.env :: X.outer) := fun hm => by
      obtain ⟨_, o', e', hnf⟩ := fl3.2.2.1.mem hm
      rw [he3] at e'; cases e'
      exact hnf _ hd3
    have nL : a ≠ X.env.locals := fun z => nfr (List.mem_filterMap.mpr ⟨X.env, List.mem_cons_self, hf.trans (by rw [z])⟩)
    have nF : a ∉ X.fs := fun hm => let ⟨e, he, q⟩ := List.mem_filterMap.mp hm; nfr (List.mem_filterMap.mpr ⟨e, List.mem_cons_of_mem _ he, q⟩)
    have S3 := (J.landed nb fl3.1 (up.trans up3) os ag : Inv X pins σ' H' { s' with heap := h3 }).suite he3 hd3 na nL nF
    -- the clause's tuple
    refine wpAny_handleBy_cons (codeAny_handlers_test ?_) (by intro q; cases q)
    refine wpAny_Tuple_spliced ?_
    have nm : ∀ {x : Str} {C : Addr} {p : Pos} {Q : Value → Shared → Prop} {E : Value → Shared → Prop}, Nm X x C → Q (.ref C) { s' with heap := h3 } → wpAny (model X.prog X.w) (X.A.mark (some (.ref a))) (eval (.Name x p) X.env) Q E { s' with heap := h3 } :=
      fun z q => ld_glob (X := X.suite a ((a, oe3) :: (X.pn ++ pins))) S3 z.gl z.mg q z.db
    rw [hst]
    refine PySem.Calls.spliced_cons (nm n1 (PySem.Calls.spliced_cons (nm n2 (PySem.Calls.spliced_cons (nm n3 (PySem.Calls.spliced_nil ⟨by rw [sizeLine_eq]; exact (by decide : 3 ≤ 16777216), ?_⟩))))))
    -- the ground with the tuple on it
    have fl5 : HandSPX.FlyingZ B (X.env :: X.outer) a (Zc cls d) (h3.push { cls := .type "tuple", data := .seq ([Value.ref C1, .ref C2, .ref C3] : List Value).toArray }) := by
      obtain ⟨k1, k2, k3, oe, vs, T, oT, ts', q1, q2, q3, q4, q5, q6, q7, q8, q9⟩ := fl3
      refine ⟨fun b o e => Heap.get?_push_of_some _ (k1 b o e), k2, Heap.FunFrames.of_keeps (fun b o e _ => ⟨o, Heap.get?_push_of_some _ e, rfl⟩) k3, oe, vs, T, oT, ts', Heap.get?_push_of_some _ q1, q2, q3, q4, q5, q6, Heap.get?_push_of_some _ q7, q8, q9⟩
    have up5 : h3.UpToSlots (h3.push { cls := .type "tuple", data := .seq ([Value.ref C1, .ref C2, .ref C3] : List Value).toArray }) := Heap.UpToSlots.of_keeps fun b o e => Heap.get?_push_of_some _ e
    have et : (h3.push { cls := .type "tuple", data := .seq ([Value.ref C1, .ref C2, .ref C3] : List Value).toArray }).get? h3.objs.size = some { cls := .type "tuple", data := .seq ([Value.ref C1, .ref C2, .ref C3] : List Value).toArray } := Heap.get?_push_size _ rfl
    generalize h3.push { cls := .type "tuple", data := .seq ([Value.ref C1, .ref C2, .ref C3] : List Value).toArray } = h5 at fl5 up5 et
    obtain ⟨oe5, vs5, he5, hz5, hd5⟩ := fl5.there
    have G5 : Inv X pins σ' H' { s' with heap := h5 } := J.landed nb fl5.1 ((up.trans up3).trans up5) os ag
    have LT : PySem.W.Looks (model X.prog X.w) h5 (typeOf (.ref a)) cls := fun A Q E s k q => wpAny_typeOf_ref (k _ _ he5) (hz5.1 ▸ q)
    refine (PySem.W.exm_tup3 (M := model X.prog X.w) G5.kIn LT et hb1).here ?_
    cases b with
    | true =>
      refine codeAny_handlers_suite_as (HandSPX.lands_againZ fl5 fun h4 fl4 up4 => ?_)
      obtain ⟨oe4, vs4, he4, hz4, hd4⟩ := fl4.there
      have S4 := (J.landed nb fl4.1 (((up.trans up3).trans up5).trans up4) os ag : Inv X pins σ' H' { s' with heap := h4 }).suite he4 hd4 na nL nF
      refine store_ok (X := X.suite a ((a, oe4) :: (X.pn ++ pins))) (v := .ref a) S4 hN hi (.inl hln) rfl (fun s5 S5 => ?_) (.inr hln)
      refine wpAny_mono ((hsu a oe4 cls d (X.pn ++ pins) hz4 ⟨_, hd4⟩).run [] s5 _ H' _ S5 (hyes rfl a na)) (fun f s6 hsp => ?_) (fun _ _ z => z.elim)
      have fin : ∀ {σ6 : L2.St} {H6 : Hp} {Q : Shared → Prop}, Inv (X.suite a ((a, oe4) :: (X.pn ++ pins))) [] σ6 H6 s6 → (∀ s7, Inv X pins (σ6.set i none) H6 s7 → Q s7) → wpAny (model X.prog X.w) X.A (do bindName X.env n .none; unbindBehindTheSuite X.env n pos') (fun _ s7 => Q s7) X.xe s6 := fun S6 hq => gone_ok (S6.unsuite ok) hN hi hln hq
      cases f with
      | ret u => obtain ⟨v6, σ6, H6, S6, r6, q6⟩ := hsp; exact fin S6 fun s7 J7 => ⟨_, _, _, J7, r6, q6⟩
      | next => obtain ⟨σ6, H6, S6, q6⟩ := hsp; exact fin S6 fun s7 J7 => ⟨_, _, J7, q6⟩
      | brk => obtain ⟨σ6, H6, S6, q6⟩ := hsp; exact fin S6 fun s7 J7 => ⟨_, _, J7, q6⟩
      | cont => obtain ⟨σ6, H6, S6, q6⟩ := hsp; exact fin S6 fun s7 J7 => ⟨_, _, J7, q6⟩
    | false =>
      refine wpAny_handleBy_nil (M := model X.prog X.w) (A := X.A) ?_
      obtain ⟨k1, k2, k3, oe, vs, T, oT, ts', he, hz, hd, h1, hr⟩ := id fl5
      unfold PySem.passOn
      refine wpAny_bind (wpAny_field he hd h1 ?_)
      rw [if_neg (by simp)]
      have fin : wpAny (model X.prog X.w) X.A (setFlight (.ref a) X.env.frame) (fun _ s4 => wpAny (model X.prog X.w) X.A (throw (.ref a) : Sem Flow) (SP X pins D) X.xe s4) X.xe { s' with heap := h5 } := by
        rw [hf]
        exact HandSPX.setFlight_upZ fl5 fun h4 hh4 up4 => wpAny_throw (tk _ _ ⟨a, B, sI, pins, σ', H', cls, d, rfl, J, nb, ((up.trans up3).trans up5).trans up4, .inr (.inr (hs ▸ hh4)), na, os, ag, hno rfl⟩)
      first | exact wpAny_bind (wpAny_pure (wpAny_bind fin)) | exact wpAny_bind fin
  · cases f with
    | ret u => obtain ⟨v, σ', H', J', r, q⟩ := hsp; exact ⟨v, σ', H', J'.ofTry ok, r, q⟩
    | next => obtain ⟨σ', H', J', q⟩ := hsp; exact wpAny_execs_nil ⟨σ', H', J'.ofTry ok, q⟩
    | brk => obtain ⟨σ', H', J', q⟩ := hsp; exact ⟨σ', H', J'.ofTry ok, q⟩
    | cont => obtain ⟨σ', H', J', q⟩ := hsp; exact ⟨σ', H', J'.ofTry ok, q⟩
theorem ps_try3w (hs : X.stack = X.env :: X.outer) (hf : X.env.frame = some X.env.locals) (hN : X.N.Nodup) (hi : X.N[i]? = some n) (hln : X.env.kindOf n = some .local) (n1 : Nm X x1 C1) (n2 : Nm X x2 C2) (n3 : Nm X x3 C3) (tk : Takes X Wout)
    (hst : ∀ E : Env, starEach [.Name x1 p1, .Name x2 p2, .Name x3 p3] E = [(false, eval (.Name x1 p1) E), (false, eval (.Name x2 p2) E), (false, eval (.Name x3 p3) E)]) :
    PS X (.Try body [hand3 x1 x2 x3 n p1 p2 p3 tp pos' kk (b₀ :: suite)] [] [] pos) (fun D σ H => ∀ pn xe, Takes (X.tr pn xe) (wT3 X.K [.ref C1, .ref C2, .ref C3] i (fun a cls d D σ H => ∀ oe pn, Zc cls d oe → (∃ vs, oe.data = .fields vs) → wSs (X.suite a ((a, oe) :: pn)) (b₀ :: suite) D σ H) Wout D) → wSs (X.tr pn xe) body D σ H) :=
  ps_try3 hs hf hN hi hln n1 n2 n3 tk hst (tb := fun W D σ H => ∀ pn xe, Takes (X.tr pn xe) W → wSs (X.tr pn xe) body D σ H) (fun W pn xe tk hp => ⟨fun pins s σ H D I h => (h pn xe tk).h pins s I⟩) fun a oe cls d pn hz hf => ⟨fun pins s σ H D I h => (h oe pn hz hf).h pins s I⟩
end
end Od

set_option Elab.async false
set_option linter.all false
set_option maxRecDepth 100000
set_option maxHeartbeats 4000000
/-! Ol4: fields of a caught error; a def called while an error is handled; a lambda that was handed in is called. -/
namespace Od
open PySem L2 L2H PyProof.Rows NdefX
section
variable {X : Cx} {M : Addr → Prop} {e : DE} {cs cs1 cs2 cs' : Cs} {pos p : Pos} {ex : Expr} {ns : List Str} {ds : List D} {d : D} {m n : Str} {a dd C : Addr} {k : Nat}
/-- the error stands at a, of the class C, its dict at dd -/
def ExcAt (X : Cx) (a dd C : Addr) : Prop := ∀ (pins : List (Addr × Obj)) (σ : L2.St) (H : Hp) (s : Shared), Inv X pins σ H s → ∃ oe, s.heap.get? a = some oe ∧ oe.cls = .ref C ∧ oe.dict = some dd ∧ ∃ vs, oe.data = .fields vs
theorem excAt_pin {oe : Obj} (hp : (a, oe) ∈ X.pn) (hz : Zc (.ref C) (some dd) oe) (hf : ∃ vs, oe.data = .fields vs) : ExcAt X a dd C := fun pins σ H s I => ⟨oe, (I.pin (a, oe) (List.mem_append_left _ hp)).1, hz.1, hz.2, hf⟩
/-- n.f, n an error -/
theorem e_xat (T : XfC X.K C) (hno : PySem.W.findIn X.K (.ref C) m = some none) (ho : ExcAt X a dd C) (ha : EE X M e cs ex (.exc a dd ns ds) cs1) (i : Nat) (hi : ns.idxOf? m = some i) (hd : ds[i]? = some d) (hb : attributeBase ex m X.env (eval ex X.env) = eval ex X.env := by rfl) : EE X M e cs (.Attribute ex m pos) d cs1 where
  dm := ha.dm
  k := fun σ H Q S k pins s I => by
    refine attr_of hb (thn (ha.k σ H (fun v H1 => Sit X.K X.mg M σ H1 e cs1 ∧ Ext (dom cs) H H1 ∧ R X.K X.mg M H1 v (.exc a dd ns ds)) S (fun v H1 S1 x1 r1 => ⟨S1, x1, r1⟩) pins s I) fun u s1 ⟨x, H1, I1, rx, S1, x1, r1⟩ => ?_)
    unfold R at r1
    obtain ⟨xs, rfl, nm, h1, hl, rs⟩ := r1
    obtain rfl : u = Value.ref a := rx
    obtain ⟨v, hv, rv⟩ := rs.get hd
    obtain ⟨oe, g1, g2, g3, vs, g4⟩ := ho _ _ _ _ I1
    obtain ⟨mA, hns, hr⟩ := (show ObjOk X.prog X.w H1 s1.heap dd (.xd (ns.zip xs)) from I1.hok dd _ h1)
    obtain ⟨od, q1, q2⟩ := lookIn_ns hns
    have l : (ns.zip xs).lookup m = some v := zip_lookup hi hv
    obtain ⟨w, hw, rw'⟩ := RelO.some_of (v := v) (o := mA m) (l ▸ hr m)
    have J : PySem.W.InstAt s1.heap a oe C (some od) := ⟨g1, g2, by unfold PySem.W.notCls; rw [g4] <;> rfl, by rw [g3]; exact q1⟩
    exact HandSPX.exc_get I1.kIn J T.ga T.gg T.exC (PySem.W.findObj_own T.hdC hno rfl (by rw [q2, hw])) (handed_of rw') ⟨v, H1, I1.tok _, rw', k v H1 S1 x1 rv⟩
end
section
variable {P : Program} {w : World} {K : PySem.W.Frag} {mg : Str → Option Value} {base : Heap} {x qual : Str} {st : Stmt} {f : Addr} {fd : FuncData} {N ps : List Str} {k : Nat}
/-- a def called while p's error is handled -/
theorem run_hot (F : Fun K x qual st f fd) (S : FnScope N ps (defScope st)) (hb : Binds K fd ps []) {A : Around} {outer : List Env} {s : Shared} {H : Hp} {us : List Value} {vs : List V} {Q : VK} {E : XK} {p : Addr × Obj} (hr : RoomH (k + 1) A) (hpin : PinOk outer H s p) (e0 : Env0 P w K mg base A outer s H) (r : Vals vs us) (hl : vs.length = ps.length)
    (hbody : ∀ cdv : Value, RoomH k (A.deeper (envOfC qual (defScope st) s.heap.objs.size f cdv)) → wSs (cxH (L2.CX P w) P w K mg base N qual (defScope st) f cdv A outer s H E p) (defBody st) { nx := fun _ H' => Q .non H', rt := Q } (L2.start N vs) H) :
    codeAny (model P w) A (.call (.ref f) ⟨us, []⟩) (CR (L2.CX P w) outer P w H s Q E) s := by
  have KX : K.In s.heap := e0.mod.kin.keeps fun b o e => (e0.bs b o e).1
  have lim : s.heap.NoLimit := e0.mod.nolimit.keeps fun b o e => (e0.bs b o e).1
  have hbt := hb s us KX (by rw [List.append_nil, ← r.length]; exact hl)
  rw [List.append_nil] at hbt
  obtain ⟨oc, od, kV, doc, pm, an, cdv, ct, osl, rfl, lk, hcd⟩ := F.ex
  have hkind : ∀ y ∈ ps.zip us, (defScope st).names.lookup y.1 = some .local ∨ ((defScope st).names.lookup y.1 = some .cell ∧ ((cellsFrom (s.heap.objs.size + 1) (defScope st).names []).lookup y.1).isSome = true) := fun ⟨n, v⟩ hy =>
    (S.par n (List.of_mem_zip hy).1).imp_right fun q => ⟨q, PySem.W.cellsFrom_some _ _ _ (.inl q)⟩
  refine codeAny_call_function hr.depth (KX _ _ lk) rfl S.co S.gen rfl (PySem.W.codeRec_of KX hcd) (hbt _ _ _ _ (wpAny_newFunctionEnv_cells S.kind hkind fun env he s1 x => ?_))
  subst he
  refine ⟨lim.keeps x.toInCall.keep, codeAny_func ?_⟩
  have I : Inv (cxH (L2.CX P w) P w K mg base N qual (defScope st) f cdv A outer s H E p) [] (L2.start N vs) H s1 := inv_startH S hpin e0 hl r x
  refine wpAny_mono ((hbody cdv (hr.deeper _)).h [] s1 I) (fun fl s' hs => ?_) fun e s' hs => hs
  cases fl with
  | ret u =>
    obtain ⟨v, σ', H', J, rv, q⟩ := hs
    exact ⟨v, H', J.os, J.bare, J.base, J.hok, rv, q⟩
  | next =>
    obtain ⟨σ', H', J, q⟩ := hs
    exact ⟨.non, H', J.os, J.bare, J.base, J.hok, rfl, q⟩
  | brk => obtain ⟨_, _, _, q⟩ := hs; exact q.elim
  | cont => obtain ⟨_, _, _, q⟩ := hs; exact q.elim
/-- a def called in a known state -/
theorem run_cold (F : Fun K x qual st f fd) (S : FnScope N ps (defScope st)) (hb : Binds K fd ps []) {A : Around} {outer : List Env} {s : Shared} {H : Hp} {us : List Value} {vs : List V} {Q : VK} {E : XK} (hr : Room (k + 1) A) (e0 : Env0 P w K mg base A outer s H) (r : Vals vs us) (hl : vs.length = ps.length)
    (hbody : ∀ cdv : Value, Room k (A.deeper (envOfC qual (defScope st) s.heap.objs.size f cdv)) → wSs (cxOf (L2.CX P w) P w K mg base N qual (defScope st) f cdv A outer s H E) (defBody st) { nx := fun _ H' => Q .non H', rt := Q } (L2.start N vs) H) :
    codeAny (model P w) A (.call (.ref f) ⟨us, []⟩) (CR (L2.CX P w) outer P w H s Q E) s := by
  have KX : K.In s.heap := e0.mod.kin.keeps fun b o e => (e0.bs b o e).1
  have hbt := hb s us KX (by rw [List.append_nil, ← r.length]; exact hl)
  rw [List.append_nil] at hbt
  obtain ⟨oc, od, kV, doc, pm, an, cdv, ct, osl, rfl, lk, hcd⟩ := F.ex
  exact LamX.run_ofS lk hcd S hr e0 hbt r hl fun hr2 => ⟨_, pss_w, hbody cdv hr2⟩
end
/-! ### errors told: code, field -/
abbrev inS (code : Str) (l : List Str) : Bool := inV (.str code) (l.map V.str)
def fieldNm (code : Str) : Option Str :=
  if inS code ["InvalidFormula", "InvalidLetters", "InvalidNode", "InvalidProfile", "InvalidLimit"] then some "given"
  else if inS code ["InvalidName", "DuplicateName", "WrongKind", "CircularName", "Oversized", "Refused", "UnknownName"] then some "name"
  else if inS code ["TooMany", "TooLong", "Full"] then some "limit"
  else if inS code ["InvalidTree", "InvalidFilling"] then (if code = "InvalidTree" then some "index" else some "key")
  else if inS code ["NotExtensible", "NotSolving"] then (if code = "NotExtensible" then some "meet" else some "refuting")
  else if inS code ["NameInUse", "InvalidCommand"] then (if code = "NameInUse" then some "user" else some "first")
  else if code = "InvalidPage" then some "line" else none
def fieldD (code : Str) (ns : List Str) (ds : List D) : D := match fieldNm code with
  | none => .non
  | some n => match ns.idxOf? n with
    | none => .non
    | some i => ds.getD i .non
def codeOf (x : Xc) : Str := match x.ds with
  | .str c :: _ => c
  | _ => ""
/-- what a call tried gives -/
def tryD : Out → D
  | .ok d => .tup [.str "value", d]
  | .err x => .tup [.str (codeOf x), fieldD (codeOf x) x.ns x.ds]
/-- what the written part says of an error's class -/
structure XErr (K : PySem.W.Frag) (C : Addr) (x : Xc) : Prop where
  xf : XfC K C
  c0 : x.ns.idxOf? ("code" : Str) = some 0
  d0 : x.ds[0]? = some (.str (codeOf x))
  nc : PySem.W.findIn K (.ref C) "code" = some none
  fl : ∀ n, fieldNm (codeOf x) = some n → PySem.W.findIn K (.ref C) n = some none ∧ ∃ i d, x.ns.idxOf? n = some i ∧ x.ds[i]? = some d
/-- the tried call's errors are caught -/
def Caught (K : PySem.W.Frag) (mg : Str → Option Value) : Out → Prop
  | .ok _ => True
  | .err x => ∃ C C1 C2 C3, mg x.c = some (.ref C) ∧ mg "RootError" = some (.ref C1) ∧ mg "Missing" = some (.ref C2) ∧ mg "NothingLeft" = some (.ref C3) ∧ PySem.W.exmAny K (.ref C) [.ref C1, .ref C2, .ref C3] = some true ∧ XErr K C x
/-- _law_field, called while an error is handled -/
structure FieldOk (P : Program) (w : World) (K : PySem.W.Frag) (mg : Str → Option Value) (base : Heap) (k : Nat) : Prop where
  ex : ∃ f, mg "_law_field" = some (.ref f) ∧ PySem.W.keepIn K (.ref f) = true ∧ ∀ (A : Around) (outer : List Env) (s : Shared) (H : Hp) (M : Addr → Prop) (a dd C : Addr) (oe : Obj) (x : Xc) (Q : VK) (E : XK), RoomH k A → PinOk outer H s (a, oe) → Env0 P w K mg base A outer s H → Zc (.ref C) (some dd) oe → (∃ vs, oe.data = .fields vs) →
    (∀ a, M a → H a ≠ none) → R K mg M H (.ref a) (.exc a dd x.ns x.ds) → XErr K C x → OutK K mg M [] H [] Q E (.ok (fieldD (codeOf x) x.ns x.ds)) → codeAny (model P w) A (.call (.ref f) ⟨[.ref a], []⟩) (CR (L2.CX P w) outer P w H s Q E) s
/-- _law_try, handed a lambda -/
structure TryOk (P : Program) (w : World) (K : PySem.W.Frag) (mg : Str → Option Value) (base : Heap) (kl k : Nat) : Prop where
  ex : ∃ f, mg "_law_try" = some (.ref f) ∧ PySem.W.keepIn K (.ref f) = true ∧ ∀ (A : Around) (outer : List Env) (s : Shared) (H : Hp) (M : Addr → Prop) (v : V) (u : Value) (L : LamF) (fr : List Str) (el : DE) (ws : List (Option V)) (cs cs' : Cs) (out : Out) (Q : VK) (E : XK), Room k A → Env0 P w K mg base A outer s H → L2.RelV v u → Lams M H v L →
    CellsAt L.cl fr ws s.heap H → (∀ y c, L.cl.lookup y = some c → c ∉ frs outer) → Holds K mg M H el ws → (∀ a, M a → H a ≠ none) → (∀ p ∈ cs, M p.1 ∧ Cell K mg M H p.1 p.2) → (dom cs).Nodup → LamOk P w K mg base kl L fr M el cs out cs' → dom cs' = dom cs → Caught K mg out → OutK K mg M (dom cs) H cs' Q E (.ok (tryD out)) →
    codeAny (model P w) A (.call (.ref f) ⟨[u], []⟩) (CR (L2.CX P w) outer P w H s Q E) s
section
variable {X : Cx} {M : Addr → Prop} {e : DE} {cs cs1 cs2 cs' : Cs} {pos p : Pos} {a ex : Expr} {d : D} {n : Str} {k kl : Nat} {L : LamF} {fr : List Str} {el : DE} {out : Out}
theorem fnAt_lam {pins : List (Addr × Obj)} {σ : L2.St} {H : Hp} {s : Shared} {f c' : Addr} {dV : Value} (I : Inv X pins σ H s) (h : H f = some (LamO f L dV c')) : PySem.W.FnAt f s.heap := by
  obtain ⟨⟨pm, ctv, ho⟩, _, _⟩ := I.hok f _ h
  exact ⟨_, _, _, _, ho⟩
/-- the cells of L hold ws, in every state of this frame with the slots σ -/
def CapR (X : Cx) (σ : L2.St) (L : LamF) (fr : List Str) (ws : List (Option V)) : Prop := ∀ (pins : List (Addr × Obj)) (s : Shared) (H' : Hp), Inv X pins σ H' s → CellsAt L.cl fr ws s.heap H' ∧ ∀ y c, L.cl.lookup y = some c → c ∉ frs X.stack
theorem mem_dom {K : PySem.W.Frag} {mg : Str → Option Value} {σ : L2.St} {H : Hp} (S : Sit K mg M σ H e cs) (hM : dom cs' = dom cs) : ∀ p ∈ cs', M p.1 := fun p hp => by
  have : p.1 ∈ dom cs := by rw [← hM]; exact List.mem_map_of_mem (f := (·.1)) hp
  obtain ⟨q, hq, e⟩ := List.mem_map.mp this
  rw [← e]; exact (S.cel q hq).1
/-- x(), x a name that holds a lambda -/
theorem ask_raw {σ : L2.St} {H : Hp} {Q : VK} {ws : List (Option V)} (F : LamOk X.prog X.w X.K X.mg X.base kl L fr M el cs (.ok d) cs') (hdm : dom cs' = dom cs) (S : Sit X.K X.mg M σ H e cs) (cp : CapR X σ L fr ws) (hw : Holds X.K X.mg M H el ws) (hr : Room (kl + 1) X.A) (i : Nat) (hi : e[i]? = some (some (.lam L))) (hN : X.N[i]? = some n) (hv : Vis X.env.scope n)
    (h1 : (n == ("__debug__" : Str)) = false) (h2 : (n == ("__classdict__" : Str)) = false) (k : ∀ v H', Sit X.K X.mg M σ H' e cs' → Ext (dom cs) H H' → R X.K X.mg M H' v d → Q v H') : wE X (.Call (.Name n p) [] [] pos) σ H Q := fun pins s I => by
    obtain ⟨v, hs, r⟩ := S.env i _ hi
    have r0 := r
    unfold R at r
    obtain ⟨f, c', dV, rfl, nf, hf, rest⟩ := r
    refine wpAny_Call_Name_kw (thn ((pe_var (pos := p) hN hv h1 h2).run pins s σ H (fun v H1 => v = .ref f ∧ H1 = H) I ⟨.ref f, hs, rfl, rfl⟩) fun u s1 ⟨v, H1, I1, rr, q1, q2⟩ => ?_)
    subst q1
    rw [q2] at I1
    obtain rfl : u = Value.ref f := rr
    refine PySem.W.callWith_F0 (first := []) (fnAt_lam I1 hf) ?_
    obtain ⟨f', e', run⟩ := lam_call (E := E0) (Q := Q) F hr I1.env0 (by unfold R at r0; exact r0) (cp _ _ _ I1).1 hw S.mt S.cel S.nd (mem_dom S hdm) (fun v H' mt xt cl rv => k v H' (S.step hdm xt mt cl) xt rv)
    cases e'
    refine wpAny_call (codeAny_mono run fun r s' hq => ?_)
    cases r with
    | error er => exact (L2.passL (X := X) pins σ H s1 er s' I1 hq)
    | ok fl => cases fl with
      | ret u => exact I1.after hq
      | _ => exact hq.elim
theorem xask_raw {x : Xc} {W : WX} {σ : L2.St} {H : Hp} {Q : VK} {ws : List (Option V)} (F : LamOk X.prog X.w X.K X.mg X.base kl L fr M el cs (.err x) cs') (hdm : dom cs' = dom cs) (tk : Takes X W) (S : Sit X.K X.mg M σ H e cs) (cp : CapR X σ L fr ws) (hw : Holds X.K X.mg M H el ws) (hr : Room (kl + 1) X.A) (i : Nat) (hi : e[i]? = some (some (.lam L))) (hN : X.N[i]? = some n) (hv : Vis X.env.scope n)
    (h1 : (n == ("__debug__" : Str)) = false) (h2 : (n == ("__classdict__" : Str)) = false) (k : ∀ cls dd H', Sit X.K X.mg M σ H' e cs' → Ext (dom cs) H H' → RX X.K X.mg M H' cls dd x → W cls dd σ H') : wE X (.Call (.Name n p) [] [] pos) σ H Q := fun pins s I => by
    obtain ⟨v, hs, r⟩ := S.env i _ hi
    have r0 := r
    unfold R at r
    obtain ⟨f, c', dV, rfl, nf, hf, rest⟩ := r
    refine wpAny_Call_Name_kw (thn ((pe_var (pos := p) hN hv h1 h2).run pins s σ H (fun v H1 => v = .ref f ∧ H1 = H) I ⟨.ref f, hs, rfl, rfl⟩) fun u s1 ⟨v, H1, I1, rr, q1, q2⟩ => ?_)
    subst q1
    rw [q2] at I1
    obtain rfl : u = Value.ref f := rr
    refine PySem.W.callWith_F0 (first := []) (fnAt_lam I1 hf) ?_
    obtain ⟨f', e', run⟩ := lam_call (E := fun cls d H => W cls d σ H) (Q := Q) F hr I1.env0 (by unfold R at r0; exact r0) (cp _ _ _ I1).1 hw S.mt S.cel S.nd (mem_dom S hdm) (fun cls d H' mt xt cl rv => k cls d H' (S.step hdm xt mt cl) xt rv)
    cases e'
    refine wpAny_call (codeAny_mono run fun r s' hq => ?_)
    cases r with
    | error er => exact passAt tk σ pins H s1 er s' I1 hq
    | ok fl => cases fl with
      | ret u => exact I1.after hq
      | _ => exact hq.elim
/-- _law_try(..) -/
theorem try_raw {σ : L2.St} {H : Hp} {Q : VK} {ws : List (Option V)} (T : TryOk X.prog X.w X.K X.mg X.base kl k) (hr : Room k X.A) (ha : EE X M e cs a (.lam L) cs1) (F : LamOk X.prog X.w X.K X.mg X.base kl L fr M el cs1 out cs2) (hdm : dom cs2 = dom cs1) (S : Sit X.K X.mg M σ H e cs) (cp : CapR X σ L fr ws) (hw : Holds X.K X.mg M H el ws) (hct : Caught X.K X.mg out) (hg : Gl X "_law_try") (he : starEach [a] X.env = (false, eval a X.env) :: starEach [] X.env)
    (k : ∀ v H', Sit X.K X.mg M σ H' e cs2 → Ext (dom cs) H H' → R X.K X.mg M H' v (tryD out) → Q v H') : wE X (.Call (.Name "_law_try" p) [a] [] pos) σ H Q := fun pins s I => by
    obtain ⟨f, hm, hk, run⟩ := T.ex
    refine wpAny_Call_Name_kw (ld_glob I hg hm ?_ (by decide))
    refine PySem.W.callWith_K (h₀ := X.base) I.ok.mod.kin hk ?_ he rfl
    rw [he]
    refine PySem.Calls.spliced_cons (thn (ha.k σ H (fun v H1 => Sit X.K X.mg M σ H1 e cs1 ∧ Ext (dom cs) H H1 ∧ R X.K X.mg M H1 v (.lam L)) S (fun v H1 S1 x1 r1 => ⟨S1, x1, r1⟩) pins s I) fun u s1 ⟨v, H1, I1, rv, S1, x1, r1⟩ => ?_)
    refine PySem.Calls.spliced_nil ⟨I1.kIn, ?_⟩
    obtain ⟨c1, c2⟩ := cp _ _ _ I1
    have hw1 : Holds X.K X.mg M H1 el ws := hw.ext (S.keeps x1) fun _ n _ => n
    refine wpAny_call (codeAny_mono (run X.A X.stack s1 H1 M v u L fr el ws cs1 cs2 out Q E0 hr I1.env0 rv (by unfold R at r1; exact r1) c1 c2 hw1 S1.mt S1.cel S1.nd F hdm hct (fun v H' mt xt cl rv => k v H' (S1.step hdm xt mt cl) (x1.trans (by rw [← ha.dm]; exact xt)) rv)) fun r s' hq => ?_)
    cases r with
    | error er => exact (L2.passL (X := X) pins σ H1 s1 er s' I1 hq)
    | ok fl => cases fl with
      | ret u => exact I1.after hq
      | _ => exact hq.elim
/-- _law_field(e), while e is handled -/
theorem e_field {oe : Obj} {dd C : Addr} {x : Xc} {ad : Addr} (T : FieldOk X.prog X.w X.K X.mg X.base k) (hr : RoomH k X.A) (hpin : (ad, oe) ∈ X.pn) (hz : Zc (.ref C) (some dd) oe) (hf : ∃ vs, oe.data = .fields vs) (hx : XErr X.K C x) (ha : EE X M e cs a (.exc ad dd x.ns x.ds) cs1) (hg : Gl X "_law_field" := by rfl)
    (he : starEach [a] X.env = (false, eval a X.env) :: starEach [] X.env := by rfl) : EE X M e cs (.Call (.Name "_law_field" p) [a] [] pos) (fieldD (codeOf x) x.ns x.ds) cs1 where
  dm := ha.dm
  k := fun σ H Q S k pins s I => by
    obtain ⟨f, hm, hk, run⟩ := T.ex
    refine wpAny_Call_Name_kw (ld_glob I hg hm ?_ (by decide))
    refine PySem.W.callWith_K (h₀ := X.base) I.ok.mod.kin hk ?_ he rfl
    rw [he]
    refine PySem.Calls.spliced_cons (thn (ha.k σ H (fun v H1 => Sit X.K X.mg M σ H1 e cs1 ∧ Ext (dom cs) H H1 ∧ R X.K X.mg M H1 v (.exc ad dd x.ns x.ds)) S (fun v H1 S1 x1 r1 => ⟨S1, x1, r1⟩) pins s I) fun u s1 ⟨v, H1, I1, rv, S1, x1, r1⟩ => ?_)
    refine PySem.Calls.spliced_nil ⟨I1.kIn, ?_⟩
    have r2 := r1
    unfold R at r2
    obtain ⟨xs, rfl, _⟩ := r2
    obtain rfl : u = Value.ref ad := rv
    have P1 := I1.pin (ad, oe) (List.mem_append_left _ hpin)
    have hp2 : PinOk X.stack H1 s1 (ad, oe) := ⟨P1.1, P1.2.1, fun hm => (List.mem_cons.mp (I1.stkSub ad hm)).elim P1.2.2.1 P1.2.2.2.1, P1.2.2.2.2⟩
    refine wpAny_call (codeAny_mono (run X.A X.stack s1 H1 M ad dd C oe x Q E0 hr hp2 I1.env0 hz hf S1.mt r1 hx (fun v H' mt xt _ rv => k v H' (S1.ex xt) (x1.trans (xt.mono (by simp))) rv)) fun r s' hq => ?_)
    cases r with
    | error er => exact (L2.passL (X := X) pins σ H1 s1 er s' I1 hq)
    | ok fl => cases fl with
      | ret u => exact I1.after hq
      | _ => exact hq.elim
/-- a def's own frame: no cell of it is a frame -/
theorem cell_nofr {pins : List (Addr × Obj)} {σ : L2.St} {H : Hp} {s : Shared} (I : Inv X pins σ H s) (hfn : ∀ y, X.fn y = true) {y : Str} {c : Addr} (h : X.env.cells.lookup y = some c) : c ∉ frs X.stack := fun hm => by
  rcases List.mem_cons.mp (I.stkSub c hm) with z | z
  · exact I.cne y c h z
  · obtain ⟨_, o, ho, _⟩ := I.ok.funs.mem z
    have := I.ok.cab y c (hfn y) h
    exact absurd (Heap.lt_size ho) (Nat.not_lt.mpr this)
/-- the captured names stand in the slots js of a def's frame -/
theorem capR_def {σ : L2.St} {js : List Nat} (cp : X.Ok → Caps X L.cl fr js) (hfn : ∀ y, X.fn y = true) : CapR X σ L fr (js.map (slotAt σ)) := fun pins s H' I => ⟨cells_of I (cp I.ok), fun y c h => cell_nofr I hfn ((cp I.ok).sub y c h)⟩
theorem holds_js {σ : L2.St} {H : Hp} {js : List Nat} (S : Sit X.K X.mg M σ H e cs) : Holds X.K X.mg M H (js.map fun j => (e[j]?).getD none) (js.map (slotAt σ)) := ⟨by simp, fun i d q => by
  rw [List.getElem?_map] at q
  cases hj : js[i]? with
  | none => rw [hj] at q; cases q
  | some j =>
    rw [hj] at q
    have q' : (e[j]?).getD none = some d := Option.some.inj q
    have q2 : e[j]? = some (some d) := by
      cases h : e[j]? with
      | none => rw [h] at q'; cases q'
      | some o => rw [h] at q'; exact congrArg some q'
    obtain ⟨v, hv, r⟩ := S.env j d q2
    exact ⟨v, by rw [List.getElem?_map, hj]; exact congrArg some (slotAt_of hv), r⟩⟩
/-- _law_try(..) in the def that makes the lambda -/
theorem e_try {js : List Nat} (T : TryOk X.prog X.w X.K X.mg X.base kl k) (hr : Room k X.A) (ha : EE X M e cs a (.lam L) cs1) (hjs : js.map (fun j => (e[j]?).getD none) = el) (F : LamOk X.prog X.w X.K X.mg X.base kl L fr M el cs1 out cs2) (hdm : dom cs2 = dom cs1) (cp : X.Ok → Caps X L.cl fr js) (hct : Caught X.K X.mg out) (hd : tryD out = d) (hfn : ∀ y, X.fn y = true := by intro _; rfl) (hg : Gl X "_law_try" := by rfl)
    (he : starEach [a] X.env = (false, eval a X.env) :: starEach [] X.env := by rfl) : EE X M e cs (.Call (.Name "_law_try" p) [a] [] pos) d cs2 where
  dm := hdm.trans ha.dm
  k := fun σ H Q S k => by
    subst hd hjs
    exact try_raw T hr ha F hdm S (capR_def cp hfn) (holds_js S) hct hg he k
end
end Od

set_option Elab.async false
set_option linter.all false
set_option maxRecDepth 100000
set_option maxHeartbeats 4000000
/-! Ox6: defs with *v; static methods called by a keyword; lists of texts compared. -/
namespace Od
open PySem L2
section
variable {P : Program} {w : World} {K : PySem.W.Frag} {mg : Str → Option Value} {base : Heap} {args heads parts : List D} {cs cs' : Cs} {res : Out} {x qual n c m pv : Str} {st : Stmt} {f : Addr} {fd : FuncData} {N ps : List Str} {k : Nat}
/-- how a def with *v binds -/
def BindsS (x qual : Str) (st : Stmt) (ps : List Str) (pv : Str) : Prop := ∀ (kV doc pm : Value) (an : Option Addr) (cdv ct : Value) (us rest : List Value), us.length = ps.length → bindArgs (PySem.W.fnOf x qual (defArgs st) (defBody st) (defScope st) .none kV doc pm an cdv ct) ⟨us ++ rest, []⟩ = (newTuple rest >>= fun t => pure (ps.zip us ++ [(pv, t)]))
theorem fnrO_star (F : Fun K x qual st f fd) (S : FnScope N (ps ++ [pv]) (defScope st)) (hb : BindsS x qual st ps pv) (hl : heads.length = ps.length) (hz : parts.length ≤ 100000) (body : BodyO P w K mg base qual st f N k (heads ++ [.tup parts]) cs res cs') : FnR P w K mg base (L2.CX P w) (k + 1) f (outSp K mg (heads ++ parts) cs res cs') := by
  obtain ⟨oc, od, kV, doc, pm, an, cdv, ct, osl, rfl, lk, hcd⟩ := F.ex
  have h := StX.fn_star (P := P) (w := w) (mg := mg) (base := base) (k := k) (CX := (L2.CX P w)) (sp := outSp K mg (heads ++ [.tup parts]) cs res cs') lk hcd S StX.cxUp (hb kV doc pm an cdv ct) fun A outer s H vs Q E hr h => by
    obtain ⟨M, mt, r, hc, nd, kq⟩ := h
    refine ⟨_, pss_w, body cdv A outer s H E M Q hr (fun p hp => (hc p hp).1) kq _ _ (sit_start mt r hc nd) (fun q hq => ?_) fun q hq a ha => ?_⟩
    · rcases List.mem_singleton.mp hq with rfl
      exact Ext.refl _ _
    · rcases List.mem_singleton.mp hq with rfl
      exact .inl ha
  intro A outer s H us vs Q E hr e0 r hsp
  refine h A outer s H us vs Q E hr e0 r ?_
  obtain ⟨M, mt, rs, hc, nd, kq⟩ := hsp
  have r1 : Rs K mg M H (vs.take heads.length) heads := by simpa using rs.take heads.length
  have r2 : Rs K mg M H (vs.drop heads.length) parts := by simpa using rs.drop heads.length
  refine ⟨vs.take heads.length, vs.drop heads.length, by simp, by rw [r1.length, hl], by rw [r2.length]; exact Nat.le_trans hz (by decide), fun p hp0 => ?_⟩
  have kp : ∀ a o, H a = some o → upd H p (.tup (vs.drop heads.length)) a = some o := fun a o h => by rw [upd_ne (ne_of_none h hp0)]; exact h
  have xn : Ext [] H (upd H p (.tup (vs.drop heads.length))) := Ext.new hp0
  refine ⟨M, fun a m z => ?_, ?_, fun q hq => ⟨(hc q hq).1, (hc q hq).2.ext (fun a o _ h => kp a o h) (fun _ n _ => n) fun o h => kp _ o h⟩, nd, ?_⟩
  · cases q : H a with
    | none => exact mt a m q
    | some o => rw [kp a o q] at z; cases z
  · refine (Rs.ext (fun a o _ h => kp a o h) (fun _ n _ => n) _ r1).append (.cons ?_ .nil)
    unfold R
    exact ⟨p, _, rfl, .inl ⟨fun z => mt p z hp0, upd_same⟩, Rs.ext (fun a o _ h => kp a o h) (fun _ n _ => n) _ r2⟩
  · cases res with
    | ok d => exact fun v H' m2 xt => kq v H' m2 ((xn.mono (by simp)).trans xt)
    | err z => exact fun cls d H' m2 xt => kq cls d H' m2 ((xn.mono (by simp)).trans xt)
theorem fn_star' (F : Fun K x qual st f fd) (hm : mg n = some (.ref f)) (S : FnScope N (ps ++ [pv]) (defScope st)) (hb : BindsS x qual st ps pv) (body : BodyO P w K mg base qual st f N k (heads ++ [.tup parts]) cs res cs') (hz : parts.length ≤ 100000) (hl : heads.length = ps.length := by rfl) : Fn P w K mg base n (k + 1) (heads ++ parts) cs res cs' := ⟨f, hm, F.kp, fnrO_star F S hb hl hz body⟩
theorem sm_star (hC : ∃ C mc, mg c = some (.ref C) ∧ ClX.CRead K C mc ∧ CStm K C mc m f) (F : Fun K x qual st f fd) (S : FnScope N (ps ++ [pv]) (defScope st)) (hb : BindsS x qual st ps pv) (body : BodyO P w K mg base qual st f N k (heads ++ [.tup parts]) cs res cs') (hz : parts.length ≤ 100000) (hl : heads.length = ps.length := by rfl) : Sm P w K mg base c m (k + 1) (heads ++ parts) cs res cs' := by
  obtain ⟨C, mc, hm, h1, h2⟩ := hC
  exact ⟨C, mc, f, hm, h1, h2, F.kp, fnrO_star F S hb hl hz body⟩
theorem fnokO_of (F : Fun K x qual st f fd) (S : FnScope N ps (defScope st)) (hl : args.length = ps.length) (body : BodyO P w K mg base qual st f N k args cs res cs') : FnOk P w K mg base (L2.CX P w) (k + 1) f fd ps (outSp K mg args cs res cs') := F.okX S (fun vs H Q E h => by
    obtain ⟨M, _, r, _⟩ := h
    rw [r.length, hl]) fun cdv A outer s H vs Q E hr h => by
    obtain ⟨M, mt, r, hc, nd, kq⟩ := h
    refine ⟨_, pss_w, body cdv A outer s H E M Q hr (fun p hp => (hc p hp).1) kq _ _ (sit_start mt r hc nd) (fun q hq => ?_) fun q hq a ha => ?_⟩
    · rcases List.mem_singleton.mp hq with rfl
      exact Ext.refl _ _
    · rcases List.mem_singleton.mp hq with rfl
      exact .inl ha
end
/-- a static method, called by a keyword -/
structure StcK (P : Program) (w : World) (K : PySem.W.Frag) (mg : Str → Option Value) (base : Heap) (c m kw : Str) (k : Nat) (sp : Sp) : Prop where
  ex : ∃ C mc f fd ps, mg c = some (.ref C) ∧ ClX.CRead K C mc ∧ CStm K C mc m f ∧ PySem.W.keepIn K (.ref f) = true ∧ FnOk P w K mg base (L2.CX P w) k f fd ps sp ∧ KBinds K fd ps [kw] (fun us ws => us ++ ws) (fun vs zs => vs ++ zs)
section
variable {X : Cx} {M : Addr → Prop} {e : DE} {cs cs1 cs2 : Cs} {pos p apos : Pos} {a : Expr} {d x : D} {n m cn : Str} {k : Nat}
theorem e_smK {kw : String} {kp : Pos} {pl : Sem Bool} (F : StcK X.prog X.w X.K X.mg X.base cn m (Str.ofString kw) k (outSp X.K X.mg [x] [] (.ok d) [])) (hr : Room k X.A) (ha : EE X M e cs a x cs1) (hg : Gl X cn := by rfl) (hdb : (cn == ("__debug__" : Str)) = false := by decide)
    (hall : (backToKw pos (keywordEach [⟨some kw, a, kp⟩] X.env)).all (·.1.isSome) = true := by rfl) (hks : (backToKw pos (keywordEach [⟨some kw, a, kp⟩] X.env)).filterMap (·.1) = [Str.ofString kw] := by rfl)
    (hpl : ((backTo pos (starEach [] X.env)).any (·.1) || (backToKw pos (keywordEach [⟨some kw, a, kp⟩] X.env)).any (·.1.isNone)) = false := by rfl)
    (ht : eval (.Call (.Attribute (.Name cn p) m apos) [] [⟨some kw, a, kp⟩] pos) X.env = (do
      let ov ← eval (.Name cn p) X.env
      standAt apos.atName
      let (f, first) ← holding [ov] (getMethod ov m pl)
      callWith pos f first (backTo pos (starEach [] X.env)) (backToKw pos (keywordEach [⟨some kw, a, kp⟩] X.env))) := by rfl) : EE X M e cs (.Call (.Attribute (.Name cn p) m apos) [] [⟨some kw, a, kp⟩] pos) d cs1 where
  dm := ha.dm
  k := fun σ H Q S k => by
    obtain ⟨C, mc, g, fd, ps, hm, hrd, hv, hk, F, kb⟩ := F.ex
    have pe : PE X (.Call (.Attribute (.Name cn p) m apos) [] [⟨some kw, a, kp⟩] pos) (fun σ H Q => tCons (wE X a) tNil σ H fun zs H2 => outSp X.K X.mg [x] [] (.ok d) [] zs H2 Q E0) := by
      refine ⟨fun pins s σ H Q I h => PySem.W.methodCall_KW (pl := pl) (thn ((pe_glob (v := .ref C) hg hm rfl hdb).run pins s σ H (fun y H1 => y = .ref C ∧ H1 = H) I ⟨rfl, rfl⟩) fun u s1 ⟨y, H1, I1, rx, ex', eH⟩ => ?_) ht⟩
      subst ex' eH
      obtain rfl : u = Value.ref C := rx
      refine PySem.W.method_cls I1.kIn hrd.ga (getcst_ok I1 hrd hv fun s2 I2 => ?_)
      refine PySem.W.callWith_KW0 (first := []) (h₀ := X.base) I2.ok.mod.kin hk hall (thn ((pk_cons pe_w pk_nil).run pos pins s2 σ H1 _ I2 h) fun ws s3 ⟨zs, H2, I3, rz, q2⟩ => ⟨I3.kIn, ?_⟩) hpl
      rw [hks]
      exact run_fnk (us := []) (vs := []) F hr kb passL I3 .nil rz q2
    refine we_of pe (ha.k σ H _ S fun v H1 S1 x1 r1 => ?_)
    show outSp X.K X.mg [x] [] (.ok d) [] [v] H1 Q E0
    exact out_use S1 (.cons r1 .nil) sw0 fun v H' S2 x2 r2 => k v H' S2 (x1.trans (by rw [← ha.dm]; exact x2)) r2
theorem toPys_strs (l : List Str) : toPys (l.map D.str) = some (l.map PyData.str) := by
  induction l with
  | nil => simp [toPys]
  | cons s l ih => simp [toPys, toPy, ih]
theorem eqv_strs : ∀ l m : List Str, PyData.eqvAll (l.map PyData.str) (m.map PyData.str) = decide (l = m)
  | [], [] => by simp [PyData.eqvAll]
  | _ :: _, [] => by simp [PyData.eqvAll]
  | [], _ :: _ => by simp [PyData.eqvAll]
  | a :: l, b :: m => by
    simp only [List.map_cons, PyData.eqvAll, PyData.eqv, eqv_strs l m, List.cons.injEq, Bool.decide_and]
    congr 1
theorem cd_eqStrs {l m : List Str} (hu : X.A.units + 64 < cLine) (s1 : SeqAt.shaped (.list (l.map PyData.str)) = true) (s2 : SeqAt.shaped (.list (m.map PyData.str)) = true) : CmpD X .Eq (.lst (l.map D.str)) (.lst (m.map D.str)) (decide (l = m)) :=
  (cd_eqD hu (p := .list (l.map PyData.str)) (q := .list (m.map PyData.str)) (by simp [toPy, toPys_strs]) (by simp [toPy, toPys_strs]) s1 s2).eq (by simp only [PyData.eqv]; exact eqv_strs l m)
end
end Od

set_option Elab.async false
set_option linter.all false
set_option maxRecDepth 100000
set_option maxHeartbeats 4000000
/-! Ol5: _law_try(lambda: ..) in one step; a def whose code is known. -/
namespace Od
open PySem L2 LamX PyProof.Rows NdefX
def freeB (names outer : List (Str × NameKind)) : Bool := names.all fun y => !decide (y.2 = .free) || (decide (outer.lookup y.1 = some .cell) || decide (outer.lookup y.1 = some .free))
theorem freeB_of {names outer : List (Str × NameKind)} (h : freeB names outer = true) : ∀ y ∈ names, y.2 = .free → outer.lookup y.1 = some .cell ∨ outer.lookup y.1 = some .free := fun y hy e => by
  have := List.all_eq_true.mp h y hy
  simp only [e, decide_true, Bool.not_true, Bool.false_or, Bool.or_eq_true, decide_eq_true_eq] at this
  exact this
def frB (fr : List Str) (names : List (Str × NameKind)) : Bool := fr.all fun y => decide ((y, NameKind.free) ∈ names)
theorem frB_of {fr : List Str} {names : List (Str × NameKind)} (h : frB fr names = true) : ∀ y ∈ fr, (y, NameKind.free) ∈ names := fun y hy => of_decide_eq_true (List.all_eq_true.mp h y hy)
section
variable {X : Cx} {M : Addr → Prop} {e : DE} {cs cs2 : Cs} {pos p lpos : Pos} {body : Expr} {scope : Scope} {params : Arguments} {d dv : D} {k kl : Nat} {c P : Addr} {q : Str} {x : Xc}
/-- no parameters -/
structure NoPar (params : Arguments) : Prop where
  pos : params.posonlyargs = []
  args : params.args = []
  var : params.vararg = none
  kwo : params.kwonlyargs = []
  kwa : params.kwarg = none
theorem lamOk_of {L : LamF} {N fr : List Str} {el : DE} {out : Out} (hN : NoPar L.params) (hv : L.dvs = []) (hsc : nscB N [] fr L.scope = true) (hlen : el.length = fr.length)
    (F : ∀ (A : Around) (outer : List Env) (s : Shared) (H : Hp) (E : XK) (f c' : Addr), Room kl (A.deeper (envF (nfOf L c') f s.heap.objs.size)) → match out with
      | .ok d => EE (lcx X.prog X.w X.K X.mg X.base N L c' f A outer s H E) M (el ++ List.replicate (N.length - el.length) none) cs L.body d cs2
      | .err x => EX (lcx X.prog X.w X.K X.mg X.base N L c' f A outer s H E) M (el ++ List.replicate (N.length - el.length) none) cs L.body x cs2) : LamOk X.prog X.w X.K X.mg X.base kl L fr M el cs out cs2 :=
  ⟨N, [], nscope_by hsc, ⟨hN.pos, hN.var, hN.kwo, hN.kwa, .inl ⟨hN.args, hv, rfl⟩⟩, hlen, fun A outer s H E f c' hr => by
    have h := F A outer s H E f c' hr
    cases out with
    | ok d => simpa [hv] using h
    | err x => simpa [hv] using h⟩
/-- _law_try(lambda: ..), what is asked gives a value -/
theorem e_tryV (N fr : List Str) (js : List Nat) (el : DE) (T : TryOk X.prog X.w X.K X.mg X.base kl k) (hr : Room k X.A) (TL : LamAt X c P) (hin : (P, MC.tab q) ∈ cs)
    (F : ∀ (A : Around) (outer : List Env) (s : Shared) (H : Hp) (E : XK) (f c' : Addr), Room kl (A.deeper (envF (nfOf (lamOf X q params body scope []) c') f s.heap.objs.size)) → EE (lcx X.prog X.w X.K X.mg X.base N (lamOf X q params body scope []) c' f A outer s H E) M (el ++ List.replicate (N.length - el.length) none) cs body d cs2)
    (hdm : dom cs2 = dom cs) (hd : D.tup [.str "value", d] = dv := by rfl) (hjs : js.map (fun j => (e[j]?).getD none) = el := by rfl) (hq : q = X.env.qual ++ "<lambda>" := by rfl) (hN : NoPar params := by exact ⟨rfl, rfl, rfl, rfl, rfl⟩) (hsc : nscB N [] fr scope = true := by kernel_rfl) (hlen : el.length = fr.length := by rfl)
    (hfree : freeB scope.names X.env.scope.names = true := by kernel_rfl) (hfr : frB fr scope.names = true := by kernel_rfl) (hat : js.map (fun j => X.N[j]?) = fr.map some := by rfl) (hdef : defaultsOf params X.env = ([], []) := by rfl) (hfn : ∀ y, X.fn y = true := by intro _; rfl) (hg : Gl X "_law_try" := by rfl)
    (he : starEach [.Lambda params body scope lpos] X.env = (false, eval (.Lambda params body scope lpos) X.env) :: starEach [] X.env := by rfl) : EE X M e cs (.Call (.Name "_law_try" p) [.Lambda params body scope lpos] [] pos) dv cs2 :=
  e_try (out := .ok d) T hr (e_lam0 TL hin hq (freeB_of hfree) hdef) hjs (lamOk_of (out := .ok d) hN rfl hsc hlen F) hdm (fun ok => Caps.made ok (freeB_of hfree) (frB_of hfr) hat) trivial hd hfn hg he
/-- .. or raises -/
theorem e_tryX (N fr : List Str) (js : List Nat) (el : DE) (T : TryOk X.prog X.w X.K X.mg X.base kl k) (hr : Room k X.A) (TL : LamAt X c P) (hin : (P, MC.tab q) ∈ cs)
    (F : ∀ (A : Around) (outer : List Env) (s : Shared) (H : Hp) (E : XK) (f c' : Addr), Room kl (A.deeper (envF (nfOf (lamOf X q params body scope []) c') f s.heap.objs.size)) → EX (lcx X.prog X.w X.K X.mg X.base N (lamOf X q params body scope []) c' f A outer s H E) M (el ++ List.replicate (N.length - el.length) none) cs body x cs2)
    (hdm : dom cs2 = dom cs) (hct : Caught X.K X.mg (.err x)) (hd : tryD (.err x) = dv) (hjs : js.map (fun j => (e[j]?).getD none) = el := by rfl) (hq : q = X.env.qual ++ "<lambda>" := by rfl) (hN : NoPar params := by exact ⟨rfl, rfl, rfl, rfl, rfl⟩) (hsc : nscB N [] fr scope = true := by kernel_rfl) (hlen : el.length = fr.length := by rfl)
    (hfree : freeB scope.names X.env.scope.names = true := by kernel_rfl) (hfr : frB fr scope.names = true := by kernel_rfl) (hat : js.map (fun j => X.N[j]?) = fr.map some := by rfl) (hdef : defaultsOf params X.env = ([], []) := by rfl) (hfn : ∀ y, X.fn y = true := by intro _; rfl) (hg : Gl X "_law_try" := by rfl)
    (he : starEach [.Lambda params body scope lpos] X.env = (false, eval (.Lambda params body scope lpos) X.env) :: starEach [] X.env := by rfl) : EE X M e cs (.Call (.Name "_law_try" p) [.Lambda params body scope lpos] [] pos) dv cs2 :=
  e_try (out := .err x) T hr (e_lam0 TL hin hq (freeB_of hfree) hdef) hjs (lamOk_of (out := .err x) hN rfl hsc hlen F) hdm (fun ok => Caps.made ok (freeB_of hfree) (frB_of hfr) hat) hct hd hfn hg he
end
section
variable {P : Program} {w : World} {K : PySem.W.Frag} {mg : Str → Option Value} {base : Heap} {ι : Type} {pre : ι → Prop} {args : ι → List D} {cs cs' : ι → Cs} {res : ι → D} {x qual n : Str} {st : Stmt} {f : Addr} {N ps : List Str} {k : Nat} {oc kV doc pm cdv ct : Value} {od an : Option Addr} {osl : Array (Option Value)}
/-- a body, the code known -/
def BodyC (P : Program) (w : World) (K : PySem.W.Frag) (mg : Str → Option Value) (base : Heap) (qual : Str) (st : Stmt) (f : Addr) (cdv : Value) (N : List Str) (np : Nat) (k : Nat) {ι : Type} (pre : ι → Prop) (args : ι → List D) (cs : ι → Cs) (res : ι → D) (cs' : ι → Cs) : Prop :=
  ∀ (A : Around) (outer : List Env) (s : Shared) (H0 : Hp) (E : XK) (i : ι) (M : Addr → Prop) (Q : VK), pre i → Room k (A.deeper (PyProof.Rows.envOfC qual (defScope st) s.heap.objs.size f cdv)) → (∀ p ∈ cs i, M p.1) → 
    (∀ v H', (∀ a, M a → H' a ≠ none) → Ext (dom (cs i)) H0 H' → (∀ p ∈ cs' i, M p.1 ∧ Cell K mg M H' p.1 p.2) → R K mg M H' v (res i) → Q v H') →
    At (cxOf (L2.CX P w) P w K mg base N qual (defScope st) f cdv A outer s H0 E) M ((args i).map some ++ List.replicate (N.length - (args i).length) none) (cs i) [(dom (cs i), H0)]
      (wSs (cxOf (L2.CX P w) P w K mg base N qual (defScope st) f cdv A outer s H0 E) (defBody st) { nx := fun _ H' => Q .non H', rt := Q })
theorem fnokC_of (lk : K.lookup f = some ⟨oc, od, .func (PySem.W.fnOf x qual (defArgs st) (defBody st) (defScope st) .none kV doc pm an cdv ct), osl⟩) (hcd : PySem.W.codeIn K cdv qual = true) (S : FnScope N ps (defScope st)) (hl : ∀ i, (args i).length = ps.length)
    (body : BodyC P w K mg base qual st f cdv N ps.length k pre args cs res cs') : FnOk P w K mg base (L2.CX P w) (k + 1) f (PySem.W.fnOf x qual (defArgs st) (defBody st) (defScope st) .none kV doc pm an cdv ct) ps (fnSp K mg pre args cs res cs') :=
  L2.fn_of lk hcd S (fun vs H Q E h => by
    obtain ⟨M, i, _, _, r, _⟩ := h
    rw [r.length, hl]) fun A outer s H vs Q E hr h => by
    obtain ⟨M, i, hp, mt, r, hc, nd, kq⟩ := h
    refine ⟨_, pss_w, ?_⟩
    refine body A outer s H E i M Q hp hr (fun p hp => (hc p hp).1) kq _ _ (sit_start mt r hc nd) (fun q hq => ?_) fun q hq a ha => ?_
    · rcases List.mem_singleton.mp hq with rfl
      exact Ext.refl _ _
    · rcases List.mem_singleton.mp hq with rfl
      exact .inl ha
end
end Od

set_option Elab.async false
set_option linter.all false
set_option maxRecDepth 100000
set_option maxHeartbeats 4000000
/-! Ol6: comprehensions whose elements lean on the frame around the block. -/
namespace Od
open PySem L2 LamX PyProof.Rows NdefX
section
variable {X : Cx}
/-- as tLc, without tests; what an element does may lean on the state that the block began in -/
def tLw (X : Cx) (wi : TI) (g : TG) (te : Shared → Hp → List Addr → TE) (vs : List Nat) : TE := fun σ H Q => wi σ H fun J Ha => ∀ D, Ha D = none → ∃ W : Nat → Nat → Hp → Prop, (∃ m, W 0 m (upd Ha D (.lst []))) ∧
  ∀ (sb : Shared) (pb : List (Addr × Obj)) (fp : List Addr), Inv X pb σ (upd Ha D (.lst [])) sb → (∀ b ∈ fp, FpOk X pb (upd Ha D (.lst [])) b) → ∀ i m Hi, W i m Hi →
    (J.stop i Hi ∧ Q (.ref D) Hi) ∨ (J.go i Hi ∧ ∃ Nx : Hp → Prop, (∀ Hn, Nx Hn → ∃ m', m' < m ∧ W (i + 1) m' Hn) ∧ ∀ x Hy, J.yld i Hi x Hy → g x (wipe σ vs) Hy fun σt Ht => wipe σt vs = wipe σ vs ∧
      te sb (upd Ha D (.lst [])) fp σt Ht fun y He => ∃ acc, He D = some (.lst acc) ∧ acc.length < sizeLine ∧ Nx (upd He D (.lst (acc ++ [y]))))
theorem pe_lcw {elt tg iter : Expr} {scope : Scope} {own : List (Str × Nat)} {pos : Pos} {wi : TI} {g : TG} {te : Shared → Hp → List Addr → TE} (calm : X.calm = true) (nd : X.N.Nodup) (hw : PI X tg iter wi) (bo : BlkOk X.N X.env.scope scope own)
    (hg : ∀ (sb : Shared) (Hb : Hp) (C : Addr) (cl : List (Str × Addr)) (fp : List Addr), PG (blkOf X scope sb Hb C cl fp) tg g)
    (he : ∀ (sb : Shared) (Hb : Hp) (C : Addr) (cl : List (Str × Addr)) (fp : List Addr), PE (blkOf X scope sb Hb C cl fp) elt (te sb Hb fp)) (fold : ∀ x, foldedSetIterable iter X.env x = pure x) :
    PE X (.ListComp elt [⟨tg, iter, [], 0⟩] scope pos) (tLw X wi g te (own.map (·.2))) := by
  refine ⟨fun pins s σ H Q I want => ?_⟩
  rw [eval_ListComp]
  have clos : ∀ y ∈ scope.names, y.2 = .free → ∃ c, X.env.cells.lookup y.1 = some c := fun y hy e => (bo.free y hy e).elim (fun z => I.ok.has _ (.inl z)) fun z => I.ok.has _ (.inr z)
  refine wpAny_comprehension_free rfl fold (closure_ok clos) bo.kind (fun y hy e => by rw [bo.uniq y hy, e]) (thn (hw.run pins s σ H _ I want) fun xv sa hx => thn hx fun itv sc hc => ?_)
  obtain ⟨it, fp, tn, J, Ha, rfl, Ic, T, stc, fpc, q⟩ := hc
  refine wpAny_newObj_type (newEnv_comp ?_) (by show 0 ≤ sizeLine; decide)
  have free0 : Ha sc.heap.objs.size = none := Ic.hok.fresh (Nat.le_refl _)
  obtain ⟨W, ⟨m0, w0⟩, turns⟩ := q _ free0
  -- the list that is filled
  obtain ⟨sb, esb⟩ : ∃ sb : Shared, sb = { sc with heap := sc.heap.push { cls := .type "list", data := .seq ([] : List Value).toArray } } := ⟨_, rfl⟩
  have hsb : sb.heap = sc.heap.push { cls := .type "list", data := .seq ([] : List Value).toArray } := by rw [esb]
  obtain ⟨Hb, eHb⟩ : ∃ Hb : Hp, Hb = upd Ha sc.heap.objs.size (.lst []) := ⟨_, rfl⟩
  have Ib : Inv X pins σ Hb sb := by
    rw [esb, eHb]
    exact Ic.laid (t' := sc.toks) (fun b o e => Heap.get?_push_of_some _ e) (Nat.le_refl _) ⟨Nat.zero_le _, [], 0, .nil, Heap.get?_push_size _ rfl⟩
  have below : ∀ b ∈ fp, b < sc.heap.objs.size := fun b hb => by
    obtain ⟨o, e, _⟩ := T.obj _ _ stc b hb
    exact Heap.lt_size e
  have fpb : ∀ b ∈ fp, FpOk X pins Hb b ∧ b < sb.heap.objs.size := fun b hb => by
    refine ⟨⟨?_, (fpc b hb).2⟩, by rw [hsb, Heap.size_push]; exact Nat.lt_succ_of_lt (below b hb)⟩
    rw [eHb, upd_ne (Nat.ne_of_lt (below b hb))]
    exact (fpc b hb).1
  have none_b : ∀ b ∈ fp, Hb b = none := fun b hb => (fpb b hb).1.1
  have stb : tn 0 sb.heap := T.keep _ _ _ stc fun b _ o e => by rw [hsb]; exact Heap.get?_push_of_some _ e
  rw [← eHb] at w0 turns
  have turn := turns sb pins fp Ib fun b hb => (fpb b hb).1
  have D0 := block_start Ib bo nd fpb
  obtain ⟨ce, ece⟩ : ∃ ce : Env, ce = compEnvC scope (cellsFrom (sb.heap.objs.size + 1) scope.names (cloFrom X.env.cells scope.names [])) sb.heap.objs.size X.env := ⟨_, rfl⟩
  have pg : PG (X.blk sb Hb scope ce fp) tg g := by rw [ece]; exact hg sb Hb _ _ fp
  have pe : PE (X.blk sb Hb scope ce fp) elt (te sb Hb fp) := by rw [ece]; exact he sb Hb _ _ fp
  rw [← ece] at D0
  have locB : ce.locals = sb.heap.objs.size := by rw [ece]; rfl
  obtain ⟨s4, es4⟩ : ∃ s4 : Shared, s4 = { sb with heap := pushCells (sb.heap.push { cls := .type "dict", data := .dict #[] }) scope.names } := ⟨_, rfl⟩
  rw [← es4] at D0
  have st4 : tn 0 s4.heap := T.keep _ _ _ stb fun b _ o e => by rw [es4]; exact pushCells_keeps _ _ _ _ (Heap.get?_push_of_some _ e)
  have still : ∀ {σ' : L2.St} {H' : Hp} {s' : Shared}, Inv (X.blk sb Hb scope ce fp) [] σ' H' s' → (∀ b ∈ fp, H' b = none) → ∀ b ∈ fp, FpOk (X.blk sb Hb scope ce fp) [] H' b := fun {σ' H' s'} J hn b hb =>
    ⟨hn b hb, (J.ok.exf b hb).1, J.ok.exfs b hb, .inl hb, fun x c e => (J.ok.exf b hb).2 x c e, fun p hp => absurd (show p ∈ ([] : List (Addr × Obj)) ++ [] from hp) (by simp)⟩
  have loop : codeAny (model X.prog X.w) X.A (.compLoop (.ListComp elt [⟨tg, iter, [], 0⟩] scope pos) 0 (.ref it) (.ref sc.heap.objs.size) ce) (compPost (model X.prog X.w) X.A X.xe none (EP X pins σ Q) (.ref sc.heap.objs.size) sb.heap.objs.size) s4 := by
    refine compLoop_any (fun n s' => ∃ i Hi, Inv (X.blk sb Hb scope ce fp) [] (wipe σ (own.map (·.2))) Hi s' ∧ tn i s'.heap ∧ (∀ b ∈ fp, Hi b = none) ∧ W i n Hi) ?_ m0 ⟨0, Hb, D0, st4, none_b, w0⟩
    rintro n s5 ⟨i, H5, I5, st5, n5, w5⟩
    rcases turn i n H5 w5 with ⟨stop, fin⟩ | ⟨go, Nx, hNx, step⟩
    · refine thnF (T.done (X.blk sb Hb scope ce fp) rfl rfl rfl calm i [] s5 _ H5 (fun _ _ => False) I5 (still I5 n5) st5 stop) fun r s6 ⟨hr, I6⟩ => ?_
      subst hr
      have out : Inv X pins σ H5 s6 := Ib.call' (ch := fp) I6.os I6.base I6.hok I6.bare fun b hb => by
        obtain ⟨z0, z1, z2, z3, z4, z5⟩ := (fpb b hb).1
        exact ⟨z3, z1, z4, z5⟩
      have freeC : H5 sb.heap.objs.size = none := by
        have z : H5 ce.locals = none := I6.free
        rwa [locB] at z
      obtain ⟨m, hns, _⟩ := I6.loc
      have hns' : s6.heap.Ns ce.locals m := hns
      rw [locB] at hns'
      refine ⟨m, hns', fun h'' same => ?_⟩
      obtain ⟨f0, f1, f2, f3, f4, f5⟩ := Ib.fpOk (Nat.le_refl _) freeC
      exact ⟨.ref sc.heap.objs.size, H5, out.turned (t' := s6.toks) (fun b o hb e => (same.2 b hb).trans e) f0 f1 f3 f4 f5, rfl, fin⟩
    · refine thnF (T.item (X.blk sb Hb scope ce fp) rfl rfl rfl calm i [] s5 _ H5 (fun _ _ => False) I5 (still I5 n5) st5 go) fun r s6 ⟨u, hr, h6⟩ => ?_
      subst hr
      refine thnF h6 fun _ s7 ⟨x, H7, I7, r7, y7, st7, n7⟩ => ?_
      refine thnF (pg.run _ s7 _ H7 x u _ (I7.pinned (still I7 n7) (T.obj _ _ st7)) r7 (step x H7 y7)) fun _ s8 ⟨σ8, H8, I8, hw8, q8⟩ => ?_
      refine wpAny_tests_nil (show wpAny _ _ (eval elt ce) _ _ s8 from ?_)
      refine thnF (pe.run _ s8 σ8 H8 _ I8 q8) fun z s9 ⟨y, H9, I9, r9, acc, hD, hz, nx⟩ => ?_
      refine app_ok (X := X.blk sb Hb scope ce fp) I9 hD hz r9 fun s10 I10 => ?_
      obtain ⟨m', hm, w'⟩ := hNx _ nx
      have pinned : ∀ b ∈ fp, ∀ o, s7.heap.get? b = some o → s10.heap.get? b = some o ∧ _ := fun b hb o e =>
        let z := I10.pin (b, o) (List.mem_append_right _ (List.mem_append_right _ (mem_pinsAt hb e)))
        (⟨z.1, z.2.1⟩ : s10.heap.get? b = some o ∧ upd H9 sc.heap.objs.size (.lst (acc ++ [y])) b = none)
      refine ⟨m', hm, i + 1, _, (I10.unpinned (pins := [])).weak (by rw [← hw8, wipe_length]) (fun j v e => ?_), T.keep _ _ _ st7 fun b hb o e => (pinned b hb o e).1, fun b hb => ?_, w'⟩
      · rw [← hw8] at e
        exact (wipe_some e).1
      · obtain ⟨o, e, _⟩ := T.obj _ _ st7 b hb
        exact (pinned b hb o e).2
  have hst := codeAny_compStart_list loop (T.self X.A 0 _ _ _ st4 loop)
  subst ece es4 esb
  exact hst
end
section
variable {X : Cx} {M : Addr → Prop} {e : DE} {cs cs1 : Cs} {pos p : Pos} {tg : Expr} {α : Type}
/-- [elt for tg in iter] from a known state, the elements leaning on the frame around -/
theorem lcw_raw {scope : Scope} (own : List (Str × Nat)) {iter elt : Expr} {ef : D → DE} {P : D → Prop} (xs : List α) (g f : α → D) (hi : EI X M e cs tg iter (xs.map g) cs1) (ht : CTg X scope (own.map (·.2)) e tg ef P) (hP : ∀ x ∈ xs, P (g x)) (hn : xs.length ≤ 100000) {σ : L2.St} {H0 : Hp} {Q : VK} (St : Sit X.K X.mg M σ H0 e cs)
    (turn : ∀ x ∈ xs, ∀ (M' : Addr → Prop), (∀ a, M a → M' a) → (∀ a, M' a → M a ∨ H0 a = none) → ∀ (Hb : Hp) (sb : Shared) (pb : List (Addr × Obj)) (fp : List Addr), Inv X pb σ Hb sb → (∀ b ∈ fp, FpOk X pb Hb b) → ∀ (C : Addr) (cl : List (Str × Addr)) (σ' : L2.St) (H : Hp) (Q : VK), wipe σ' (own.map (·.2)) = wipe σ (own.map (·.2)) →
      Ext (dom cs) H0 H → Sit X.K X.mg M' σ' H (ef (g x)) cs1 → (∀ v H', Sit X.K X.mg M' σ' H' (ef (g x)) cs1 → Ext (dom cs1) H H' → R X.K X.mg M' H' v (f x) → Q v H') → wE (blkOf X scope sb Hb C cl fp) elt σ' H Q)
    (ok : BlkOk X.N X.env.scope scope own) (hN : X.N.Nodup) (k : ∀ v H', Sit X.K X.mg M σ H' e cs1 → Ext (dom cs) H0 H' → R X.K X.mg M H' v (.lst (xs.map f)) → Q v H') (hc : X.calm = true := by rfl) (hs : ∀ x, foldedSetIterable iter X.env x = pure x := by intro _; rfl) :
    wE X (.ListComp elt [⟨tg, iter, [], 0⟩] scope pos) σ H0 Q := by
  obtain ⟨dmI, wi, hpi, ki⟩ := hi
  obtain ⟨gg, hg, hgk⟩ := ht.k
  refine we_of (pe_lcw (own := own) (g := gg) (te := fun sb Hb fp σ H Q => ∀ (C : Addr) (cl : List (Str × Addr)), wE (blkOf X scope sb Hb C cl fp) elt σ H Q) hc hN hpi ok hg (fun sb Hb C cl fp => ⟨fun pins s1 σ H1 Q I h => h C cl pins s1 I⟩) hs) ?_
  refine ki σ H0 _ St fun J H1 S1 x1 wk Dl hD => ?_
  let M' : Addr → Prop := fun a => M a ∨ a = Dl
  have hM : ∀ a, M a → M' a := fun a h => .inl h
  have hM2 : ∀ a, M' a → M a ∨ H0 a = none := fun a h => h.imp id fun z => by
    subst z
    cases q : H0 a with
    | none => rfl
    | some o =>
      by_cases hd : a ∈ dom cs
      · rw [← dmI] at hd
        obtain ⟨p, hp, e⟩ := List.mem_map.mp hd
        exact absurd hD (by rw [← e]; exact (S1.cel p hp).2.ne)
      · rw [x1 a o q hd] at hD; cases hD
  have hDo : Dl ∉ dom cs1 := fun z => by
    obtain ⟨q, hq, rfl⟩ := List.mem_map.mp z
    exact (S1.cel q hq).2.ne hD
  let Pv : Nat → Hp → Prop := fun i H => ∃ acc, H Dl = some (.lst acc) ∧ Rs X.K X.mg M' H acc ((xs.take i).map f) ∧ Sit X.K X.mg M' (L2.wipe σ (own.map (·.2))) H (wipeD e (own.map (·.2))) cs1 ∧ Ext (dom cs1) H1 H
  have wk' : ∀ i H, Pv i H → (∀ (i : Nat) (d : D), (xs.map g)[i]? = some d → J.go i H ∧ ∀ x H3, J.yld i H x H3 → Ext [] H H3 ∧ R X.K X.mg M' H3 x d) ∧ J.stop (xs.map g).length H := fun i H p => by
    obtain ⟨acc, h1, h2, h3, h4⟩ := p
    refine wk M' H (fun a o nm h => ?_) h3.mt
    have hd : a ∉ dom cs1 := fun z => by
      obtain ⟨q, hq, rfl⟩ := List.mem_map.mp z
      exact nm (S1.cel q hq).1
    exact ⟨fun z => z.elim nm fun z => ne_of_none h hD z, h4 a o h hd⟩
  refine ⟨fun i m H => m = xs.length - i ∧ i ≤ xs.length ∧ Pv i H, ⟨xs.length, by simp, Nat.zero_le _, [], upd_same, by simpa using Rs.nil, (S1.mark hD).wipe _, Ext.new hD⟩, ?_⟩
  rintro sb pb fp Ib hfp i mm H ⟨rfl, hil, pv⟩
  obtain ⟨w1, w2⟩ := wk' i H pv
  obtain ⟨acc, h1, h2, h3, h4⟩ := pv
  by_cases hlt : i < xs.length
  · obtain ⟨y, hy⟩ : ∃ y, xs[i]? = some y := ⟨_, List.getElem?_eq_getElem hlt⟩
    have hd : (xs.map g)[i]? = some (g y) := by rw [List.getElem?_map, hy]; rfl
    have hmem : y ∈ xs := List.mem_of_getElem? hy
    obtain ⟨g1, g2⟩ := w1 i _ hd
    refine .inr ⟨g1, Pv (i + 1), fun H' p' => ⟨xs.length - (i + 1), by omega, rfl, hlt, p'⟩, fun x H3 yl => ?_⟩
    obtain ⟨x3, r3⟩ := g2 x H3 yl
    have S3 := h3.ex x3
    refine hgk M' cs1 σ H3 x (g y) _ (hP y hmem) S3 r3 fun σ' hσ S4 => ⟨hσ, fun C cl => ?_⟩
    have hacc3 : H3 Dl = some (.lst acc) := x3 Dl _ h1 (by simp)
    have h23 : Rs X.K X.mg M' H3 acc ((xs.take i).map f) := Rs.ext (M' := M') (fun a o _ h => x3 a o h (by simp)) (fun _ n _ => n) _ h2
    refine turn y hmem M' hM hM2 _ sb pb fp Ib hfp C cl σ' H3 _ hσ ((x1.trans (by rw [← dmI]; exact h4)).trans (x3.mono (by simp))) S4 fun v H5 S6 x6 r6 => ?_
    have hacc5 : H5 Dl = some (.lst acc) := x6 Dl _ hacc3 hDo
    have hl : acc.length ≤ i := by rw [h23.length]; simp; omega
    have h25 : Rs X.K X.mg M' H5 acc ((xs.take i).map f) := S4.rs x6 h23
    have Sw5 : Sit X.K X.mg M' (L2.wipe σ (own.map (·.2))) H5 (wipeD e (own.map (·.2))) cs1 := S3.step rfl x6 S6.mt S6.cel
    refine ⟨acc, hacc5, Nat.lt_of_le_of_lt hl (Nat.lt_of_lt_of_le hlt (Nat.le_trans hn (by decide))), acc ++ [v], upd_same, ?_, Sw5.upd (.inr rfl) hDo, fun a o h n => ?_⟩
    · have et : (xs.take (i + 1)).map f = (xs.take i).map f ++ [f y] := by rw [List.take_add_one, hy]; simp
      rw [et]
      exact Rs.ext (M' := M') (fun a o nm h => by rw [upd_ne (fun z => nm (.inr z))]; exact h) (fun _ n _ => n) _ (h25.append (.cons r6 .nil))
    · rw [upd_ne (ne_of_none h hD)]
      exact x6 a o (x3 a o (h4 a o h n) (by simp)) n
  · have e0 : i = xs.length := by omega
    subst e0
    refine .inl ⟨by simpa using w2, k _ H ?_ (x1.trans (by rw [← dmI]; exact h4)) ?_⟩
    · exact S1.step rfl h4 (fun a m => h3.mt a (.inl m)) fun q hq => ⟨(S1.cel q hq).1, (h3.cel q hq).2.ext (fun a o _ h => h) (fun a n _ z => n (.inl z)) fun o h => h⟩
    · rw [List.take_length] at h2
      unfold R
      exact ⟨Dl, acc, rfl, new_m S1.mt hD, h1, Rs.ext (fun a o _ h => h) (fun a n _ z => n (.inl z)) _ h2⟩
/-- [elt for tg in iter], the elements leaning on the frame around -/
theorem e_lcw {scope : Scope} (own : List (Str × Nat)) {iter elt : Expr} {ef : D → DE} {P : D → Prop} (xs : List α) (g f : α → D) (hi : EI X M e cs tg iter (xs.map g) cs1) (ht : CTg X scope (own.map (·.2)) e tg ef P) (hP : ∀ x ∈ xs, P (g x)) (hn : xs.length ≤ 100000)
    (turn : ∀ x ∈ xs, ∀ (M' : Addr → Prop), (∀ a, M a → M' a) → ∀ (σ0 : L2.St) (Hb : Hp) (sb : Shared) (pb : List (Addr × Obj)) (fp : List Addr), Inv X pb σ0 Hb sb → (∀ b ∈ fp, FpOk X pb Hb b) → ∀ (C : Addr) (cl : List (Str × Addr)) (σ' : L2.St) (H : Hp) (Q : VK), wipe σ' (own.map (·.2)) = wipe σ0 (own.map (·.2)) →
      Sit X.K X.mg M' σ' H (ef (g x)) cs1 → (∀ v H', Sit X.K X.mg M' σ' H' (ef (g x)) cs1 → Ext (dom cs1) H H' → R X.K X.mg M' H' v (f x) → Q v H') → wE (blkOf X scope sb Hb C cl fp) elt σ' H Q)
    (ok : BlkOk X.N X.env.scope scope own) (hN : X.N.Nodup) (hc : X.calm = true := by rfl) (hs : ∀ x, foldedSetIterable iter X.env x = pure x := by intro _; rfl) :
    EE X M e cs (.ListComp elt [⟨tg, iter, [], 0⟩] scope pos) (.lst (xs.map f)) cs1 where
  dm := hi.dm
  k := fun σ H0 Q St k => lcw_raw own xs g f hi ht hP hn St (fun x hx M' hM _ Hb sb pb fp Ib hfp C cl σ' H Q hw _ S kk => turn x hx M' hM σ Hb sb pb fp Ib hfp C cl σ' H Q hw S kk) ok hN k hc hs
/-- a lambda that was made in this frame, and what its call gives -/
structure Ask (X : Cx) (kl : Nat) (M : Addr → Prop) (e : DE) (vs : List Nat) (cs : Cs) (L : LamF) (out : Out) : Prop where
  ex : ∃ (fr : List Str) (js : List Nat) (el : DE), js.map (fun j => (e[j]?).getD none) = el ∧ (∀ j ∈ js, j ∉ vs) ∧ (X.Ok → Caps X L.cl fr js) ∧ (∀ M' : Addr → Prop, (∀ a, M a → M' a) → LamOk X.prog X.w X.K X.mg X.base kl L fr M' el cs out cs) ∧ Caught X.K X.mg out
theorem wipeD_get {e : DE} {i : Nat} : ∀ {vs : List Nat}, i ∉ vs → (wipeD e vs)[i]? = e[i]?
  | [], _ => rfl
  | v :: vs, h => by
    unfold wipeD
    rw [List.getElem?_set_ne (fun z => h (by rw [z]; exact List.mem_cons_self ..))]
    exact wipeD_get fun z => h (List.mem_cons_of_mem _ z)
/-- [_law_try(a) for a in asks] -/
theorem e_tryAll {kl k : Nat} {scope : Scope} {j : Nat} {y : Str} {iter : Expr} {p2 p3 pc : Pos} (asks : List (LamF × Out)) (T : TryOk X.prog X.w X.K X.mg X.base kl k) (hr : Room k X.A) (hi : EI X M e cs (.Name y p2) iter (asks.map fun x => .lam x.1) cs1) (ha : ∀ x ∈ asks, Ask X kl M e [j] cs1 x.1 x.2) (hj : X.N[j]? = some y) (hl : asks.length ≤ 100000)
    (ok : BlkOk X.N X.env.scope scope [(y, j)]) (hN : X.N.Nodup) (ht : CTg X scope [j] e (.Name y p2) (fun d => (wipeD e [j]).set j (some d)) (fun _ => True)) (hje : j < e.length)
    (hg : ∀ (sb : Shared) (Hb : Hp) (C : Addr) (cl : List (Str × Addr)) (fp : List Addr), Gl (blkOf X scope sb Hb C cl fp) "_law_try" := by intro _ _ _ _ _; rfl)
    (hv : ∀ (sb : Shared) (Hb : Hp) (C : Addr) (cl : List (Str × Addr)) (fp : List Addr), Vis (blkOf X scope sb Hb C cl fp).env.scope y := by intro _ _ _ _ _; first | exact Or.inl rfl | exact Or.inr (Or.inl rfl) | exact Or.inr (Or.inr rfl))
    (he : ∀ (sb : Shared) (Hb : Hp) (C : Addr) (cl : List (Str × Addr)) (fp : List Addr), starEach [.Name y p] (blkOf X scope sb Hb C cl fp).env = (false, eval (.Name y p) (blkOf X scope sb Hb C cl fp).env) :: starEach [] (blkOf X scope sb Hb C cl fp).env := by intro _ _ _ _ _; rfl)
    (hd1 : (y == ("__debug__" : Str)) = false := by decide) (hd2 : (y == ("__classdict__" : Str)) = false := by decide) (hfn : ∀ y, X.fn y = true := by intro _; rfl) (hc : X.calm = true := by rfl) (hs : ∀ x, foldedSetIterable iter X.env x = pure x := by intro _; rfl) :
    EE X M e cs (.ListComp (.Call (.Name "_law_try" p3) [.Name y p] [] pc) [⟨.Name y p2, iter, [], 0⟩] scope pos) (.lst (asks.map fun x => tryD x.2)) cs1 := by
  refine e_lcw (own := [(y, j)]) asks (fun x => .lam x.1) (fun x => tryD x.2) hi ht (fun _ _ => trivial) hl (fun x hx M' hM σ0 Hb sb pb fp Ib hfp C cl σ' H Q hw S k => ?_) ok hN hc hs
  obtain ⟨fr, js, el, hjs, hjv, cp, F, hct⟩ := (ha x hx).ex
  have cap := cp Ib.ok
  have inC : ∀ z c, x.1.cl.lookup z = some c → X.env.cells.lookup z = some c := fun z c h => cap.sub z c h
  have noF : ∀ z c, x.1.cl.lookup z = some c → c ∉ frs X.stack := fun z c h => cell_nofr Ib hfn (inC z c h)
  have same : js.map (slotAt σ') = js.map (slotAt σ0) := List.map_congr_left fun i hi => by
    have hn : i ∉ [j] := hjv i hi
    have e1 : (wipe σ' [j])[i]? = σ'[i]? := wipe_out hn
    have e2 : (wipe σ0 [j])[i]? = σ0[i]? := wipe_out hn
    have hw' : wipe σ' [j] = wipe σ0 [j] := hw
    unfold NdefX.slotAt
    rw [← e1, hw', e2]
  have C0 : CellsAt x.1.cl fr (js.map (slotAt σ')) sb.heap Hb := by rw [same]; exact cells_of Ib cap
  have cr : CapR (blkOf X scope sb Hb C cl fp) σ' x.1 fr (js.map (slotAt σ')) := fun pins s H' I => by
    refine ⟨CellsAt.later (X := blkOf X scope sb Hb C cl fp) C0 noF (fun z c h hm => ?_) I, fun z c h hm => ?_⟩
    · obtain ⟨_, _, _, _, f4, _⟩ := hfp c hm
      exact f4 z c (inC z c h) rfl
    · exact noF z c h hm
  have hse : ((wipeD e [j]).set j (some (.lam x.1)))[j]? = some (some (.lam x.1)) := List.getElem?_set_self (by simp [wipeD, hje])
  have en : EE (blkOf X scope sb Hb C cl fp) M' ((wipeD e [j]).set j (some (.lam x.1))) cs1 (.Name y p) (.lam x.1) cs1 := e_name (X := blkOf X scope sb Hb C cl fp) j hse hj (hv sb Hb C cl fp) hd1 hd2
  have hld : js.map (fun i => (((wipeD e [j]).set j (some (.lam x.1)))[i]?).getD none) = el := by
    rw [← hjs]
    refine List.map_congr_left fun i hi => ?_
    have hn : i ∉ [j] := hjv i hi
    rw [List.getElem?_set_ne (fun z => hn (by rw [z]; exact List.mem_cons_self ..)), wipeD_get hn]
  exact try_raw (X := blkOf X scope sb Hb C cl fp) T hr en (F M' hM) rfl S cr (by rw [← hld]; exact holds_js S) hct (hg sb Hb C cl fp) (he sb Hb C cl fp) k
end
end Od

set_option Elab.async false
set_option linter.all false
set_option maxRecDepth 100000
set_option maxHeartbeats 4000000
/-! Ol7: lambdas as asks: without parameters, with one; comprehensions whose elements change cells. -/
namespace Od
open PySem L2 LamX PyProof.Rows NdefX
section
variable {X : Cx} {M : Addr → Prop} {e : DE} {cs cs1 cs2 : Cs} {pos p lpos : Pos} {body : Expr} {scope : Scope} {params : Arguments} {k kl : Nat} {q : Str} {x : Xc} {tg : Expr} {α : Type}
/-- one parameter -/
structure OnePar (params : Arguments) (ar : Arg) : Prop where
  pos : params.posonlyargs = []
  args : params.args = [ar]
  var : params.vararg = none
  kwo : params.kwonlyargs = []
  kwa : params.kwarg = none
theorem lamOk_of1 {L : LamF} {N fr : List Str} {el : DE} {out : Out} {ar : Arg} {i : Int} (hN : OnePar L.params ar) (hv : L.dvs = [i]) (hsc : nscB N [ar.arg] fr L.scope = true) (hlen : el.length = fr.length)
    (F : ∀ (A : Around) (outer : List Env) (s : Shared) (H : Hp) (E : XK) (f c' : Addr), Room kl (A.deeper (envF (nfOf L c') f s.heap.objs.size)) → match out with
      | .ok d => EE (lcx X.prog X.w X.K X.mg X.base N L c' f A outer s H E) M (some (.int i) :: (el ++ List.replicate (N.length - 1 - el.length) none)) cs L.body d cs2
      | .err x => EX (lcx X.prog X.w X.K X.mg X.base N L c' f A outer s H E) M (some (.int i) :: (el ++ List.replicate (N.length - 1 - el.length) none)) cs L.body x cs2) : LamOk X.prog X.w X.K X.mg X.base kl L fr M el cs out cs2 :=
  ⟨N, [ar.arg], nscope_by hsc, ⟨hN.pos, hN.var, hN.kwo, hN.kwa, .inr ⟨ar, i, hN.args, hv, rfl⟩⟩, hlen, fun A outer s H E f c' hr => by
    have h := F A outer s H E f c' hr
    cases out with
    | ok d => simpa [hv] using h
    | err x => simpa [hv] using h⟩
/-- lambda: .. that raises -/
theorem ask0X (N fr : List Str) (js : List Nat) (el : DE) {vs : List Nat} (F : ∀ M' : Addr → Prop, (∀ a, M a → M' a) → ∀ (A : Around) (outer : List Env) (s : Shared) (H : Hp) (E : XK) (f c' : Addr), Room kl (A.deeper (envF (nfOf (lamOf X q params body scope []) c') f s.heap.objs.size)) → EX (lcx X.prog X.w X.K X.mg X.base N (lamOf X q params body scope []) c' f A outer s H E) M' (el ++ List.replicate (N.length - el.length) none) cs body x cs)
    (hct : Caught X.K X.mg (.err x)) (hjs : js.map (fun j => (e[j]?).getD none) = el := by rfl) (hjv : ∀ j ∈ js, j ∉ vs := by decide) (hN : NoPar params := by exact ⟨rfl, rfl, rfl, rfl, rfl⟩) (hsc : nscB N [] fr scope = true := by kernel_rfl) (hlen : el.length = fr.length := by rfl)
    (hfree : freeB scope.names X.env.scope.names = true := by kernel_rfl) (hfr : frB fr scope.names = true := by kernel_rfl) (hat : js.map (fun j => X.N[j]?) = fr.map some := by rfl) : Ask X kl M e vs cs (lamOf X q params body scope []) (.err x) :=
  ⟨fr, js, el, hjs, hjv, fun ok => Caps.made ok (freeB_of hfree) (frB_of hfr) hat, fun M' hM => lamOk_of (out := .err x) hN rfl hsc hlen (F M' hM), hct⟩
/-- lambda a=i: .. that raises -/
theorem ask1X (N fr : List Str) (js : List Nat) (el : DE) {vs : List Nat} {i : Int} {ar : Arg} (F : ∀ M' : Addr → Prop, (∀ a, M a → M' a) → ∀ (A : Around) (outer : List Env) (s : Shared) (H : Hp) (E : XK) (f c' : Addr), Room kl (A.deeper (envF (nfOf (lamOf X q params body scope [i]) c') f s.heap.objs.size)) → EX (lcx X.prog X.w X.K X.mg X.base N (lamOf X q params body scope [i]) c' f A outer s H E) M' (some (.int i) :: (el ++ List.replicate (N.length - 1 - el.length) none)) cs body x cs)
    (hct : Caught X.K X.mg (.err x)) (hjs : js.map (fun j => (e[j]?).getD none) = el := by rfl) (hjv : ∀ j ∈ js, j ∉ vs := by decide) (hN : OnePar params ar := by exact ⟨rfl, rfl, rfl, rfl, rfl⟩) (hsc : nscB N [ar.arg] fr scope = true := by kernel_rfl) (hlen : el.length = fr.length := by rfl)
    (hfree : freeB scope.names X.env.scope.names = true := by kernel_rfl) (hfr : frB fr scope.names = true := by kernel_rfl) (hat : js.map (fun j => X.N[j]?) = fr.map some := by rfl) : Ask X kl M e vs cs (lamOf X q params body scope [i]) (.err x) :=
  ⟨fr, js, el, hjs, hjv, fun ok => Caps.made ok (freeB_of hfree) (frB_of hfr) hat, fun M' hM => lamOk_of1 (out := .err x) hN rfl hsc hlen (F M' hM), hct⟩
/-- the lambdas themselves, with what they ask for found by evaluation -/
theorem e_lam0' {c P : Addr} (T : LamAt X c P) (hin : (P, MC.tab q) ∈ cs) (hq : q = X.env.qual ++ "<lambda>" := by rfl) (hfree : freeB scope.names X.env.scope.names = true := by kernel_rfl) (hdef : defaultsOf params X.env = ([], []) := by rfl) : EE X M e cs (.Lambda params body scope lpos) (.lam (lamOf X q params body scope [])) cs := e_lam0 T hin hq (freeB_of hfree) hdef
theorem e_lam1' {c P : Addr} {i : Int} {kk : Nat} {ip : Pos} (T : LamAt X c P) (hin : (P, MC.tab q) ∈ cs) (hq : q = X.env.qual ++ "<lambda>" := by rfl) (hfree : freeB scope.names X.env.scope.names = true := by kernel_rfl) (hdef : defaultsOf params X.env = ([eval (.Constant (.int i) kk ip) X.env], []) := by rfl) (hkw : params.kwonlyargs = [] := by rfl) : EE X M e cs (.Lambda params body scope lpos) (.lam (lamOf X q params body scope [i])) cs := e_lam1 T hin hq (freeB_of hfree) hdef hkw
/-- [elt for tg in iter], each element may change the cells -/
theorem e_lcS {scope : Scope} (own : List (Str × Nat)) {iter elt : Expr} {ef : D → DE} {P : D → Prop} (xs : List α) (g : α → D) (S : Nat → Cs) (out : Nat → D) (hi : EI X M e cs tg iter (xs.map g) cs1) (ht : CTg X scope (own.map (·.2)) e tg ef P) (hP : ∀ x ∈ xs, P (g x)) (hn : xs.length ≤ 100000) (hS0 : S 0 = cs1) (hSd : ∀ i, dom (S i) = dom cs1)
    (turn : ∀ (i : Nat) (x : α), xs[i]? = some x → ∀ (M' : Addr → Prop), (∀ a, M a → M' a) → ∀ (s : Shared) (H : Hp) (C : Addr) (cl : List (Str × Addr)) (fp : List Addr), EE (blkOf X scope s H C cl fp) M' (ef (g x)) (S i) elt (out i) (S (i + 1)))
    (ok : BlkOk X.N X.env.scope scope own) (hN : X.N.Nodup) (hc : X.calm = true := by rfl) (hs : ∀ x, foldedSetIterable iter X.env x = pure x := by intro _; rfl) :
    EE X M e cs (.ListComp elt [⟨tg, iter, [], 0⟩] scope pos) (.lst ((List.range xs.length).map out)) (S xs.length) where
  dm := (hSd _).trans hi.dm
  k := fun σ H Q St k => by
    have hmem : ∀ d ∈ xs.map g, P d := fun d hd => by
      obtain ⟨x, hx, rfl⟩ := List.mem_map.mp hd
      exact hP x hx
    have get : ∀ (i : Nat) (d : D), (xs.map g)[i]? = some d → ∃ x, xs[i]? = some x ∧ d = g x := fun i d hd => by
      rw [List.getElem?_map] at hd
      cases h : xs[i]? with
      | none => rw [h] at hd; cases hd
      | some x => rw [h] at hd; exact ⟨x, rfl, (Option.some.inj hd).symm⟩
    obtain ⟨t, h1, h2, _⟩ := lc_core' (pos := pos) (elt := elt) (ifs := []) hi ht hmem S S (fun _ => true) out hS0 hSd hSd (by simpa using hn) tYes (fun _ _ _ _ _ => pts_nil) (fun i d hd M' hM σ H Q S k => k H S (Ext.refl _ _))
      (fun i d hd _ M' hM s H C cl fp => by
        obtain ⟨x, hx, rfl⟩ := get i d hd
        exact turn i x hx M' hM s H C cl fp) (fun i d hd h => by cases h) hc hN ok hs
    refine we_of h1 (h2 σ H Q St fun v H' S' x' r' => ?_)
    rw [List.length_map] at S' r'
    have eo : outs (fun _ => true) out xs.length = (List.range xs.length).map out := by
      unfold outs
      rw [List.filter_eq_self.mpr fun _ _ => rfl]
    rw [eo] at r'
    exact k v H' S' x' r'
/-- name = [elt for tg in iter] on one line, the name a local; each element may change the cells -/
theorem at_lcS {scope : Scope} {fr : Frs} {rest : List Stmt} {D0 : Ends} {y : Str} {py spos : Pos} (j : Nat) (own : List (Str × Nat)) {iter elt : Expr} {ef : D → DE} {P : D → Prop} (xs : List α) (g : α → D) (S : Nat → Cs) (out : Nat → D) (hi : EI X M e cs tg iter (xs.map g) cs1) (ht : CTg X scope (own.map (·.2)) e tg ef P) (hP : ∀ x ∈ xs, P (g x)) (hn : xs.length ≤ 100000) (hS0 : S 0 = cs1) (hSd : ∀ i, dom (S i) = dom cs1)
    (turn : ∀ (i : Nat) (x : α), xs[i]? = some x → ∀ (M' : Addr → Prop), (∀ a, M a → M' a) → ∀ (s : Shared) (H : Hp) (C : Addr) (cl : List (Str × Addr)) (fp : List Addr), EE (blkOf X scope s H C cl fp) M' (ef (g x)) (S i) elt (out i) (S (i + 1)))
    (ok : BlkOk X.N X.env.scope scope own) (hN : X.N.Nodup) (k : At X M (e.set j (some (.lst ((List.range xs.length).map out)))) (S xs.length) fr (wSs X rest D0)) (hj : X.N[j]? = some y := by rfl) (hl : X.env.scope.names.lookup y = some .local := by rfl) (hk : X.env.scope.kind = .function := by rfl) (hln : (py.line == pos.line) = true := by rfl) (hno : (scope.names.any fun (n, k) => n == y && (k == .local || k == .cell)) = false := by rfl) (hc : X.calm = true := by rfl) (hs : ∀ x, foldedSetIterable iter X.env x = pure x := by intro _; rfl) :
    At X M e cs fr (wSs X (.Assign [.Name y py] (.ListComp elt [⟨tg, iter, [], 0⟩] scope pos) spos :: rest) D0) := fun σ H St x l => by
  have hmem : ∀ d ∈ xs.map g, P d := fun d hd => by
    obtain ⟨x, hx, rfl⟩ := List.mem_map.mp hd
    exact hP x hx
  have get : ∀ (i : Nat) (d : D), (xs.map g)[i]? = some d → ∃ x, xs[i]? = some x ∧ d = g x := fun i d hd => by
    rw [List.getElem?_map] at hd
    cases h : xs[i]? with
    | none => rw [h] at hd; cases hd
    | some x => rw [h] at hd; exact ⟨x, rfl, (Option.some.inj hd).symm⟩
  have hdm := hi.dm
  obtain ⟨t, h1, h2, h3⟩ := lc_core' (pos := pos) (elt := elt) (ifs := []) hi ht hmem S S (fun _ => true) out hS0 hSd hSd (by simpa using hn) tYes (fun _ _ _ _ _ => pts_nil) (fun i d hd M' hM σ H Q S k => k H S (Ext.refl _ _))
    (fun i d hd _ M' hM s H C cl fp => by
      obtain ⟨x, hx, rfl⟩ := get i d hd
      exact turn i x hx M' hM s H C cl fp) (fun i d hd h => by cases h) hc hN ok hs
  refine wss_of (pss_cons (h3 y py spos j hj hl (sw_true hk hl hln hno)) pss_w) (h2 σ H _ St fun v H' S' x' r' => ?_)
  rw [List.length_map] at S' r'
  have eo : outs (fun _ => true) out xs.length = (List.range xs.length).map out := by
    unfold outs
    rw [List.filter_eq_self.mpr fun _ _ => rfl]
  rw [eo] at r'
  exact k _ H' (S'.set j r') (ext_on x l x') (lo_of l ((hSd _).trans hdm))
/-- .. the elements leave the cells as they are -/
theorem at_lcM {scope : Scope} {fr : Frs} {rest : List Stmt} {D0 : Ends} {y : Str} {py spos : Pos} (j : Nat) (own : List (Str × Nat)) {iter elt : Expr} {ef : D → DE} {P : D → Prop} (xs : List α) (g f : α → D) (hi : EI X M e cs tg iter (xs.map g) cs1) (ht : CTg X scope (own.map (·.2)) e tg ef P) (hP : ∀ x ∈ xs, P (g x)) (hn : xs.length ≤ 100000)
    (turn : ∀ x ∈ xs, ∀ (M' : Addr → Prop), (∀ a, M a → M' a) → ∀ (s : Shared) (H : Hp) (C : Addr) (cl : List (Str × Addr)) (fp : List Addr), EE (blkOf X scope s H C cl fp) M' (ef (g x)) cs1 elt (f x) cs1)
    (ok : BlkOk X.N X.env.scope scope own) (hN : X.N.Nodup) (k : At X M (e.set j (some (.lst (xs.map f)))) cs1 fr (wSs X rest D0)) (hj : X.N[j]? = some y := by rfl) (hl : X.env.scope.names.lookup y = some .local := by rfl) (hk : X.env.scope.kind = .function := by rfl) (hln : (py.line == pos.line) = true := by rfl) (hno : (scope.names.any fun (n, k) => n == y && (k == .local || k == .cell)) = false := by rfl) (hc : X.calm = true := by rfl) (hs : ∀ x, foldedSetIterable iter X.env x = pure x := by intro _; rfl) :
    At X M e cs fr (wSs X (.Assign [.Name y py] (.ListComp elt [⟨tg, iter, [], 0⟩] scope pos) spos :: rest) D0) := by
  have eo : (List.range xs.length).map (fun i => ((xs[i]?).map f).getD .non) = xs.map f := by
    have := outs_mapM xs f
    unfold outs at this
    rw [List.filter_eq_self.mpr fun _ _ => rfl] at this
    exact this
  refine at_lcS j own xs g (fun _ => cs1) (fun i => ((xs[i]?).map f).getD .non) hi ht hP hn rfl (fun _ => rfl) (fun i x hx M' hM s H C cl fp => ?_) ok hN (by rw [eo]; exact k) hj hl hk hln hno hc hs
  show EE _ _ _ _ _ (((xs[i]?).map f).getD .non) _
  rw [hx]
  exact turn x (List.mem_of_getElem? hx) M' hM s H C cl fp
end
end Od

set_option Elab.async false
set_option linter.all false
set_option maxRecDepth 100000
set_option maxHeartbeats 4000000
/-! Ff: check_filling, with_filling, Formula.filled, filled_size at right fillings. -/
namespace Od
open PySem L2 TL PySem.Spec
abbrev sChk : Stmt := top 18
abbrev sWith : Stmt := top 19
abbrev sFSize : Stmt := top 20
abbrev sFilled : Stmt := inClass sCls 15
local macro_rules
  | `(tactic| walk_at "le") => `(tactic| repeat (first | exact LeD.nil | apply LeD.drop | apply LeD.same))
theorem at_endV {X : Cx} {M : Addr → Prop} {e : DE} {c0 : Cs} {H0 : Hp} {D0 : Ends} {fr : Frs} {A0 : List Addr} (hfr : (A0, H0) ∈ fr)
    (kq : ∀ v H', (∀ a, M a → H' a ≠ none) → Ext A0 H0 H' → (∀ p ∈ c0, M p.1 ∧ Cell X.K X.mg M H' p.1 p.2) → R X.K X.mg M H' v .non → D0.rt v H') (hq : ∀ σ H, D0.rt .non H → D0.nx σ H) : At X M e c0 fr (wSs X [] D0) := at_nil fun σ H S x l =>
  hq σ H (kq .non H S.mt (x _ hfr) S.cel (by simp [R]))
section
variable (P : Program) (w : World) (K : PySem.W.Frag) (mg : Str → Option Value) (base : Heap)
structure FilPre (i : Fm × Fil) : Prop where
  ok : i.1.ok
  gok : i.2.Ok
  sz : (sub i.2.f i.1).sz ≤ 9000
abbrev ChkD (k : Nat) : Prop := Dfn P w K mg base "check_filling" k (puSp K mg (fun g : Fil => g.Ok) (fun g => [g.dict Fm.o]) (fun _ => .non))
abbrev WithD (n k : Nat) : Prop := Dfn P w K mg base "with_filling" k (puSp K mg (fun i : Fm × Fil => FilPre i ∧ i.1.nest ≤ n) (fun i => [i.1.o, i.2.dict Fm.o]) (fun i => (sub i.2.f i.1).o))
abbrev FilledD (n k : Nat) : Prop := Mth P w K mg base "Formula" "filled" k (puSp K mg (fun i : Fm × Fil => FilPre i ∧ i.1.nest ≤ n) (fun i => [i.1.o, i.2.dict Fm.o]) (fun i => (sub i.2.f i.1).o))
abbrev FSizeD (n k : Nat) : Prop := Dfn P w K mg base "filled_size" k (puSp K mg (fun i : Fm × Fil => FilPre i ∧ i.1.nest ≤ n) (fun i => [i.1.o, i.2.dict Fm.o]) (fun i => .int ((sub i.2.f i.1).sz : Nat)))
variable {P w K mg base}
theorem scChk : FnScope ["filling", "key"] ["filling"] (defScope sChk) := ⟨rfl, rfl, rfl, by decide +kernel, rfl, by decide +kernel, by decide +kernel⟩
theorem scWith : FnScope ["formula", "filling", "parts", "part"] ["formula", "filling"] (defScope sWith) := ⟨rfl, rfl, rfl, by decide +kernel, rfl, by decide +kernel, by decide +kernel⟩
theorem scFSize : FnScope ["formula", "filling", "part"] ["formula", "filling"] (defScope sFSize) := ⟨rfl, rfl, rfl, by decide +kernel, rfl, by decide +kernel, by decide +kernel⟩
theorem scFilled : FnScope ["self", "filling"] ["self", "filling"] (defScope sFilled) := ⟨rfl, rfl, rfl, by decide +kernel, rfl, by decide +kernel, by decide +kernel⟩
theorem fil_keys (g : Fil) : g.k = ((g.map (·.1)).map sg).map Sum.inr := by simp [Fil.k, Function.comp_def]
theorem ok_chk {f C : Addr} {fd : FuncData} (F : Fun K "check_filling" "check_filling" sChk f fd) (hm : mg "check_filling" = some (.ref f)) (hb : Binds K fd ["filling"] []) (B : Blt mg) (T : FmT w K mg C) (L : IsLetD P w K mg base 2) : ChkD P w K mg base 3 := by
  refine dfn_of F hm scChk hb (fun i => rfl) fun cdv A outer s H0 E g M Q hp hr kq => ?_
  have hu := hu_of hr
  have hlen := hp.len
  refine at_for (α := fun _ => Unit) (ds := ((srt (g.map (·.1))).map sg).map D.str) (fun _ _ => True) (fun _ _ => [some (g.dict Fm.o), none]) (fun _ _ => [])
    (ei_list (e_blt (kd_sortedD (ss := (g.map (·.1)).map sg) (fil_keys g) (by simp; omega) fun ys hy hs => sortS_sg hy hs) (a_cons (e_name 0 rfl) a_nil) B.sorted)) (ltg_name 1 scChk.nd) (fun _ _ => trivial) () trivial rfl rfl (fun _ _ _ => rfl) (fun i d u H1 hd _ => ?_) fun u _ => ?_
  · obtain ⟨c, hc, rfl⟩ : ∃ c, c ∈ srt (g.map (·.1)) ∧ d = .str (sg c) := by
      have h1 := List.mem_of_getElem? hd
      obtain ⟨t, ht, rfl⟩ := List.mem_map.mp h1
      obtain ⟨c, hc, rfl⟩ := List.mem_map.mp ht
      exact ⟨c, hc, rfl⟩
    have hc' : c ∈ g.map (·.1) := (srt_perm _).mem_iff.mp hc
    obtain ⟨p, hpg, rfl⟩ := List.mem_map.mp hc'
    have hv : dvl g.k (g.v Fm.o) (Sum.inr (sg p.1)) = some p.2.o := by rw [dvl_fil, Fil.f_eq hp hpg]; rfl
    have hle : isLet (sg p.1) = true := by simp [isLet, hp.le p hpg]
    refine at_if (b0 := false) (cs1 := []) (ET.eq (t_ew (t_or (p0 := false) (q0 := false) (t_not (k0 := true) (t_val (EE.eq (e_call L (hr.mono (by decide)) (a_cons (e_name 1 rfl) a_nil) (sg p.1) (by show 1 ≤ 100000; decide) rfl) (congrArg D.bl hle)))) fun _ => t_or1 (t_not (k0 := true) (t_val (e_blt (kd_isiOC T.hm T.ci T.kit) (a_cons ((e_dix (e_name 0 rfl) (e_name 1 rfl) hv hu).eq p.2.o_eq) (a_cons (e_gref T.hm) a_nil)) B.isinstance))))) rfl) (fun h => by cases h) (fun _ => at_nil ?_)
    exact at_nil (at_go (at_inv (e := [some (g.dict Fm.o), none]) () trivial rfl rfl) (by walk_at "le") rfl)
  · exact at_endV (.head _) kq fun _ _ h => h
theorem ok_with {f C : Addr} {fd : FuncData} (F : Fun K "with_filling" "with_filling" sWith f fd) (hm : mg "with_filling" = some (.ref f)) (hb : Binds K fd ["formula", "filling"] []) (T : FmT w K mg C) (MK : MkF P w K mg base 5) (PW : PropD P w K mg base "word" (fun f => .str f.w) 1) (PT : M0D P w K mg base "text" (fun f => .str f.t) 1) (PP : M0D P w K mg base "parts" (fun f => .lst (f.inner.map Fm.o)) 1) : ∀ n, WithD P w K mg base n (7 + n) := by
  intro n
  induction n with
  | zero => exact dfn_of F hm scWith hb (fun i => rfl) fun cdv A outer s H0 E i M Q hp hr kq => absurd hp.2 (by have := nest_pos i.1; omega)
  | succ n ih =>
    refine dfn_of F hm scWith hb (fun i => rfl) fun cdv A outer s H0 E i M Q hp hr kq => ?_
    obtain ⟨g, s⟩ := i
    obtain ⟨⟨ok, gok, sz⟩, ne⟩ := hp
    dsimp only at ok gok sz ne kq
    have hu := hu_of hr
    have hr6 : Room 6 _ := hr.mono (show 6 ≤ 7 + n by omega)
    have sok : ∀ f : Fm, f.ok → (sub s.f f).ok := sub_ok fun c x h => gok.ok _ (Fil.f_mem h)
    by_cases hlet : ∃ c, g = .le c
    · obtain ⟨c, rfl⟩ := hlet
      refine at_if (b0 := true) (cs1 := []) (ET.eq (t_cmp (e_fp PW (hr6.mono (by decide)) (e_name 0 rfl)) e_str cd_eqS) (by simp [Fm.w])) (fun _ => ?_) (fun h => by cases h)
      refine at_end (EE.eq (e_dgetD (s := sg c) (e_name 1 rfl) (e_fm PT (hr6.mono (by decide)) (e_name 0 rfl)) (e_name 0 rfl) hu) ?_) rfl (.head _) kq
      rw [dvl_fil]
      show _ = ((s.f c).getD (.le c)).o
      cases s.f c <;> rfl
    · have hw : decide (g.w = ("letter" : Str)) = false := by
        cases g with
        | le c => exact absurd ⟨c, rfl⟩ hlet
        | cst b => exact cw_ne b
        | bin o a b => exact Op.w_ne o
      refine at_if (b0 := false) (cs1 := []) (ET.eq (t_cmp (e_fp PW (hr6.mono (by decide)) (e_name 0 rfl)) e_str cd_eqS) hw) (fun h => by cases h) (fun _ => at_nil ?_)
      have hil : g.inner.length ≤ 1000 := by cases g <;> simp [Fm.inner]
      have hin : ∀ x ∈ g.inner, FilPre (x, s) ∧ x.nest ≤ n := fun x hx => by
        cases g with
        | bin o a b =>
          simp only [Fm.inner, List.mem_cons, List.not_mem_nil, or_false] at hx
          have hs : 1 + ((sub s.f a).sz + (sub s.f b).sz) ≤ 9000 := sz
          have hn : 1 + max a.nest b.nest ≤ n + 1 := ne
          rcases hx with rfl | rfl
          · exact ⟨⟨ok.1, gok, by show (sub s.f x).sz ≤ 9000; omega⟩, by omega⟩
          · exact ⟨⟨ok.2, gok, by show (sub s.f x).sz ≤ 9000; omega⟩, by omega⟩
        | cst b => simp [Fm.inner] at hx
        | le c => simp [Fm.inner] at hx
      refine at_lcM 2 [("part", 3)] g.inner Fm.o (fun x => (sub s.f x).o) (ei_list (e_fm PP (hr6.mono (by decide)) (e_name 0 rfl))) (ctg_name 3 scWith.nd (by decide) rfl) (fun _ _ => trivial) (by omega)
        (fun x hx M' hM s2 H2 C2 cl2 fp2 => EE.eq (e_call ih hr (a_cons (e_name 3 rfl) (a_cons (e_name 1 rfl) a_nil)) (x, s) (hin x hx) rfl) rfl) (blkOk_by rfl) scWith.nd ?_
      have MK' := MK.at (sub s.f g) ⟨sok g ok, by omega⟩
      refine at_end (EE.eq (e_maS2 MK' hr6 (EA.eq (a_cons (e_fp PW (hr6.mono (by decide)) (e_name 0 rfl)) (a_star (.lst _) (e_name 2 rfl) a_nil)) ?_)) (Fm.o_eq _).symm) rfl (.head _) kq
      cases g with
      | le c => exact absurd ⟨c, rfl⟩ hlet
      | cst b => rfl
      | bin o a b => rfl
theorem ok_filled {f : Addr} {fd : FuncData} (F : Fun K "filled" "Formula.filled" sFilled f fd) (hC : ∃ C, mg "Formula" = some (.ref C) ∧ Cls K C ∧ Meth K C "filled" f) (hb : Binds K fd ["self", "filling"] []) (CH : ChkD P w K mg base 3) {n k : Nat} (hk : 3 ≤ k) (W : WithD P w K mg base n k) : FilledD P w K mg base n (k + 1) := by
  refine mth_of hC F scFilled hb (fun i => rfl) fun cdv A outer s H0 E i M Q hp hr kq => ?_
  refine at_expr (cs1 := []) (e_call CH (hr.mono hk) (a_cons (e_name 1 rfl) a_nil) i.2 hp.1.gok rfl) ?_
  exact at_end (d := (sub i.2.f i.1).o) (EE.eq (e_call W hr (a_cons (e_name 0 rfl) (a_cons (e_name 1 rfl) a_nil)) i hp rfl) rfl) rfl (.head _) kq
theorem ok_fsize {f : Addr} {fd : FuncData} (F : Fun K "filled_size" "filled_size" sFSize f fd) (hm : mg "filled_size" = some (.ref f)) (hb : Binds K fd ["formula", "filling"] []) (B : Blt mg) (PW : PropD P w K mg base "word" (fun f => .str f.w) 1) (PT : M0D P w K mg base "text" (fun f => .str f.t) 1) (PP : M0D P w K mg base "parts" (fun f => .lst (f.inner.map Fm.o)) 1) (PS : PropD P w K mg base "size" (fun f => .int (f.sz : Nat)) 1) : ∀ n, FSizeD P w K mg base n (3 + n) := by
  intro n
  induction n with
  | zero => exact dfn_of F hm scFSize hb (fun i => rfl) fun cdv A outer s H0 E i M Q hp hr kq => absurd hp.2 (by have := nest_pos i.1; omega)
  | succ n ih =>
    refine dfn_of F hm scFSize hb (fun i => rfl) fun cdv A outer s H0 E i M Q hp hr kq => ?_
    obtain ⟨g, s⟩ := i
    obtain ⟨⟨ok, gok, sz⟩, ne⟩ := hp
    dsimp only at ok gok sz ne kq
    have hu := hu_of hr
    have hr2 : Room 2 _ := hr.mono (show 2 ≤ 3 + n by omega)
    by_cases hlet : ∃ c, g = .le c
    · obtain ⟨c, rfl⟩ := hlet
      refine at_if (b0 := true) (cs1 := []) (ET.eq (t_cmp (e_fp PW hr2 (e_name 0 rfl)) e_str cd_eqS) (by simp [Fm.w])) (fun _ => ?_) (fun h => by cases h)
      cases hc : s.f c with
      | none =>
        refine at_end (d := .int 1) (e_if (p0 := false) (ET.eq (t_din (s := sg c) (e_fm PT (hr2.mono (by decide)) (e_name 0 rfl)) (e_name 1 rfl) hu) (by rw [dvl_fil, hc]; rfl)) rfl (fun h => by cases h) fun _ => e_int) ?_ (.head _) kq
        show D.int 1 = .int (((s.f c).getD (.le c)).sz : Nat)
        rw [hc]; rfl
      | some x =>
        have hv : dvl s.k (s.v Fm.o) (Sum.inr (sg c)) = some x.o := by rw [dvl_fil, hc]; rfl
        refine at_end (d := .int (x.sz : Nat)) (e_if (p0 := true) (ET.eq (t_din (s := sg c) (e_fm PT (hr2.mono (by decide)) (e_name 0 rfl)) (e_name 1 rfl) hu) (by rw [hv]; rfl)) rfl (fun _ => e_fp PS hr2 (e_dix (s := sg c) (e_name 1 rfl) (e_fm PT (hr2.mono (by decide)) (e_name 0 rfl)) hv hu)) fun h => by cases h) ?_ (.head _) kq
        show D.int (x.sz : Nat) = .int (((s.f c).getD (.le c)).sz : Nat)
        rw [hc]; rfl
    · have hw : decide (g.w = ("letter" : Str)) = false := by
        cases g with
        | le c => exact absurd ⟨c, rfl⟩ hlet
        | cst b => exact cw_ne b
        | bin o a b => exact Op.w_ne o
      refine at_if (b0 := false) (cs1 := []) (ET.eq (t_cmp (e_fp PW hr2 (e_name 0 rfl)) e_str cd_eqS) hw) (fun h => by cases h) (fun _ => at_nil ?_)
      have hil : g.inner.length ≤ 1000 := by cases g <;> simp [Fm.inner]
      have hin : ∀ x ∈ g.inner, FilPre (x, s) ∧ x.nest ≤ n := fun x hx => by
        cases g with
        | bin o a b =>
          simp only [Fm.inner, List.mem_cons, List.not_mem_nil, or_false] at hx
          have hs : 1 + ((sub s.f a).sz + (sub s.f b).sz) ≤ 9000 := sz
          have hn : 1 + max a.nest b.nest ≤ n + 1 := ne
          rcases hx with rfl | rfl
          · exact ⟨⟨ok.1, gok, by show (sub s.f x).sz ≤ 9000; omega⟩, by omega⟩
          · exact ⟨⟨ok.2, gok, by show (sub s.f x).sz ≤ 9000; omega⟩, by omega⟩
        | cst b => simp [Fm.inner] at hx
        | le c => simp [Fm.inner] at hx
      refine at_end (e_bin e_int (e_blt (kd_sum (ns := g.inner.map fun x => ((sub s.f x).sz : Int))) (a_cons (EE.eq (e_lcM [("part", 2)] g.inner Fm.o (fun x => D.int ((sub s.f x).sz : Nat)) (ei_list (e_fm PP (hr2.mono (by decide)) (e_name 0 rfl))) (ctg_name 2 scFSize.nd (by decide) rfl) (fun _ _ => trivial) (by omega)
        (fun x hx M' hM s2 H2 C2 cl2 fp2 => EE.eq (e_call ih hr (a_cons (e_name 2 rfl) (a_cons (e_name 1 rfl) a_nil)) (x, s) (hin x hx) rfl) rfl) (blkOk_by rfl) scFSize.nd) (by simp)) a_nil) B.sum) bd_add) ?_ (.head _) kq
      cases g with
      | le c => exact absurd ⟨c, rfl⟩ hlet
      | cst b => rfl
      | bin o a b =>
        show D.int ((1 : Int) + (((sub s.f a).sz : Int) + (((sub s.f b).sz : Int) + 0))) = .int ((1 + ((sub s.f a).sz + (sub s.f b).sz) : Nat) : Int)
        rw [show (1 : Int) + (((sub s.f a).sz : Int) + (((sub s.f b).sz : Int) + 0)) = ((1 + ((sub s.f a).sz + (sub s.f b).sz) : Nat) : Int) by omega]
end
end Od

set_option Elab.async false
set_option linter.all false
set_option maxRecDepth 100000
set_option maxHeartbeats 4000000
/-! Od20: an operator of an own instance, the right operand of another kind. -/
namespace PySem.W
open PySem PySem.Spec PySem.Calls PyProof.Rows
section
variable {prog : Program} {w : World} {A : Around} {E : Value → Shared → Prop} {s : Shared} {K : Frag} {x C L f : Addr} {h₀ : Heap} {m : Str → Option Value} {ox : Obj} {od : Option Obj} {T : String}
theorem odBinT {op : Operator} {b : Value} {fo ro rc : Option Value} {Q : Value → Shared → Prop} (F : Fr h₀ L s.heap m) (X₀ : K.In h₀) (I : InstAt s.heap x ox C od) (hb : Looks (model prog w) s.heap (typeOf b) (.type T)) (hc : selfFirst K C = true) (hs : findIn K (.ref C) (PySem.dunder op.info.2) = some (some (.ref f))) (hf : isFn K (.ref f) = true)
    (hr : findIn K (.ref C) (dunderR op.info.2) = some rc) (hp : rc = none ∨ ∃ g : Addr, rc = some (.ref g)) (h1 : findIn K (.type T) (PySem.dunder op.info.2) = some fo) (h2 : findIn K (.type T) (dunderR op.info.2) = some ro) (hsub : subIn K (.type T) (.ref C) = some false)
    (h : wpAny (model prog w) A (call (.ref f) [.ref x, b]) (CmpBack Q) E s) : wpAny (model prog w) A (binaryOp op (.ref x) b) Q E s := by
  have X := X₀.keeps F.keep; obtain ⟨cd, rest, hcd, hm⟩ := ksp_first hc
  rcases hi : op.info with ⟨sym, nm'⟩; rw [hi] at hs hr h1 h2; dsimp only at hs hr h1 h2
  have one := ksp_try X I hs hf h; obtain ⟨hh, g, d, tt, os⟩ := s
  have La : Looks (model prog w) hh (typeOf (.ref x)) (.ref C) := I.type
  have Lb : Looks (model prog w) hh (typeOf b) (.type T) := hb
  have Lc : Looks (model prog w) hh (fillsNumberSlot (.ref C) nm') true := fills_K X hcd hm hs
  have Ld : Looks (model prog w) hh (fillsNumberSlot (.type T) nm') ((fo.isSome && !isSeqSlot fo) || (ro.isSome && !isSeqSlot ro)) := ksp_fillsT X h1 h2
  have Le : Looks (model prog w) hh (isSubtype (.type T) (.ref C)) false := looks_subIn X hsub
  have Lf : Looks (model prog w) hh (numberSlotInPython (.ref C) nm') true := ksp_inPy X hs hr hp
  have Lg : Looks (model prog w) hh (numberSlotInPython (.type T) nm') false := Looks.of_pure rfl
  have Lh : Looks (model prog w) hh (typeLookup (.type T) (dunderR nm')) ro := looks_findIn X h2
  generalize ((fo.isSome && !isSeqSlot fo) || (ro.isSome && !isSeqSlot ro)) = other at Ld
  have apart : (Value.ref C == Value.type T) = false := Bool.eq_false_iff.mpr fun q => by cases beq_iff_eq.mp q
  simp only [binaryOp, hi]; refine wpAny_holding (wpAny_bind ?_); unfold binaryOp1
  refine wpAny_bind (La.at (wpAny_bind (Lb.at (wpAny_bind (Lc.at ?_))))); simp only [apart, Bool.false_eq_true, if_false]
  cases other
  all_goals
    ksp_lk
    refine wpAny_mono one (fun r s' hr' => ?_) fun _ _ e => e
    obtain ⟨v, rfl, hq⟩ := hr'
    ksp_lk
    exact hq
end
end PySem.W
namespace Od
open PySem L2
/-- what the operator asks of the class and of the kind T -/
structure OpT (K : PySem.W.Frag) (C : Addr) (nm : String) (T : String) : Prop where
  rc : ∃ rc, PySem.W.findIn K (.ref C) (PySem.dunderR nm) = some rc ∧ (rc = none ∨ ∃ g : Addr, rc = some (.ref g))
  fo : ∃ fo, PySem.W.findIn K (.type T) (PySem.dunder nm) = some fo
  ro : ∃ ro, PySem.W.findIn K (.type T) (PySem.dunderR nm) = some ro
  sub : PySem.W.subIn K (.type T) (.ref C) = some false
section
variable {X : Cx} {M : Addr → Prop} {e : DE} {cs cs1 cs2 : Cs} {pos : Pos} {a b : Expr} {ds : List D} {ns : List Str} {y : D} {cn nm : Str} {k : Nat} {x : Xc}
/-- a op b, b of another kind, raises -/
theorem x_binT {op : Operator} {T : String} (F : Du X.prog X.w X.K X.mg X.base cn nm k [.obj cn ns ds, y] (.err x)) (hsf : ∀ C, X.mg cn = some (.ref C) → PySem.W.selfFirst X.K C = true) (hT : tyN y = some T) (hop : ∀ C, X.mg cn = some (.ref C) → OpT X.K C op.info.2 T) (hr : Room k X.A) (ha : EE X M e cs a (.obj cn ns ds) cs1) (hb : EE X M e cs1 b y cs2) (hi : PySem.dunder op.info.2 = nm := by rfl) : EX X M e cs (.BinOp a op b pos) x cs2 where
  dm := hb.dm.trans ha.dm
  k := fun σ H W Q tk S k pins s I => by
    subst hi
    obtain ⟨C, f, hm, hf, hfn, F⟩ := F.ex
    obtain ⟨⟨rc, o1, o2⟩, ⟨fo, o3⟩, ⟨ro, o4⟩, o5⟩ := hop C hm
    refine wpAny_BinOp (binT (ta := wE X a) (tb := wE X b) (R := fun v u H2 => Sit X.K X.mg M σ H2 e cs2 ∧ Ext (dom cs) H H2 ∧ R X.K X.mg M H2 v (.obj cn ns ds) ∧ R X.K X.mg M H2 u y) pe_w pe_w I (ha.k σ H _ S fun v H1 S1 x1 r1 => hb.k σ H1 _ S1 fun u H2 S2 x2 r2 => ⟨S2, x1.trans (by rw [← ha.dm]; exact x2), S1.r x2 r1, r2⟩) fun v u s2 vx vy H2 I2 rx ry q => ?_)
    obtain ⟨S2, x2, r1, r2⟩ := q
    have r1' := r1
    obtain ⟨ad, C', dx, xs, rfl, _, hm', ho, hl, rs⟩ := r_obj r1
    rw [hm] at hm'; cases hm'
    cases (show v = Value.ref ad from rx)
    obtain ⟨mA, O, _, _, _, _⟩ := ins_get I2.hok ho
    obtain ⟨od, J, _⟩ := O.look
    obtain ⟨P, kx, kp, _⟩ := kit_of I2 ry (tyx_of hT r2)
    obtain ⟨m, hF⟩ := I2.fr
    refine PySem.W.odBinT hF I2.ok.mod.kin J (kx.ty _ _ I2.kIn kp) (hsf C hm) hf hfn o1 o2 o3 o4 o5 ?_
    have q2 : outSp X.K X.mg [.obj cn ns ds, y] [] (.err x) [] [.ref ad, vy] H2 (fun _ _ => False) (WE W σ) := err_use S2 (.cons r1' (.cons r2 .nil)) sw0 fun cls d H' S3 x3 r3 => k cls d H' S3 (x2.trans (by rw [← ha.dm, ← hb.dm]; exact x3)) r3
    refine wpAny_mono (wpAny_call (run_fnRS (us := [.ref ad, u]) (vs := [.ref ad, vy]) F hr (passAt tk σ) I2 (.cons rfl (.cons ry .nil)) q2)) (fun w s' z => ?_) fun _ _ x => x
    obtain ⟨z', H', I', rz, qz⟩ := z
    exact qz.elim
end
end Od

set_option Elab.async false
set_option linter.all false
set_option maxRecDepth 100000
set_option maxHeartbeats 4000000
/-! Od21: first, *rest = t. -/
namespace PySem.W
open PySem PySem.Spec PySem.Calls PyProof.Rows
section
variable {prog : Program} {w : World} {A : Around} {E : Value → Shared → Prop} {s : Shared}
theorem od_head {l : Addr} {items : Array Value} {u0 : Value} {more : List Value} {Q : List Value → Shared → Prop} (hl : IsTup s.heap l items) (hh : A.handled = none) (e0 : items.toList = u0 :: more) (hz : items.size ≤ 16384)
    (h : ∀ (h' : Heap) (tk : Nat), (∀ b o, s.heap.get? b = some o → h'.get? b = some o) → Q [u0, .ref h'.objs.size] { s with heap := h'.push { cls := .type "list", data := .seq more.toArray }, toks := tk }) : wpAny (model prog w) A (unpackItems (.ref l) 2 (some 1)) Q E s := by
  obtain ⟨ot, hot, hct⟩ := id hl
  have lt : l < s.heap.objs.size := Heap.lt_size hot
  have sz : items.size = more.length + 1 := by rw [← Array.length_toList, e0]; rfl
  have big : items.size ≤ sizeLine := by rw [sizeLine_eq]; omega
  unfold unpackItems
  refine wpAny_bind (show wpAny _ _ (notIterableAtAll (.ref l)) _ _ _ from ?_); unfold notIterableAtAll
  refine wpAny_bind (wpAny_specialOf hl.typeIs slot_tuple_iter.lookup (wpAny_pure ?_)); simp only [Bool.false_eq_true, if_false]
  refine wpAny_bind (wpAny_holding (iter_tuple hl (wpAny_bind (wpAny_holding (draw_tuple (Nat.ne_of_lt lt) 1 0 _ _ ⟨_, Heap.get?_push_size _ rfl, rfl, rfl⟩ (hl.push _) (by omega) fun g1 it1 sb1 => ?_)))))
  have tup1 : IsTup g1 l items := (hl.push _).extBut sb1.extBut (Nat.ne_of_lt lt)
  rw [Nat.zero_add] at it1
  obtain ⟨oi, hoi, _⟩ := id it1
  obtain ⟨ol, hol, _⟩ := id tup1
  rw [List.drop_zero, e0]
  show wpAny _ _ (if (List.take 1 (u0 :: more)).length < 1 then _ else _) _ _ _
  rw [if_neg (show ¬ ((List.take 1 (u0 :: more)).length < 1) by simp)]
  refine wpAny_bind (wpAny_holding (kun_collect (s := { s with heap := g1 }) (T := "tuple_iterator") (.inr (.inr (.inr rfl))) (Walks.tuple (A := A.in1) hh s.heap.objs.size l (Nat.ne_of_lt lt) items) (fun j u st => st.1.typeIs) (k := 1) (by omega) ⟨it1, tup1⟩ (Heap.lt_size hoi) (Heap.lt_size hol) (fun g2 tk hk => ?_) big))
  rw [e0]
  have hd : List.drop 1 (u0 :: more) = more := rfl
  rw [hd]
  show wpAny _ _ (if more.length < 0 then _ else _) _ _ _
  rw [if_neg (Nat.not_lt_zero _)]
  have kp : ∀ b o, s.heap.get? b = some o → g2.get? b = some o := fun b o e => by
    have nb : b ≠ s.heap.objs.size := Nat.ne_of_lt (Heap.lt_size e)
    exact hk b o nb (sb1.extBut b o nb (Heap.get?_push_of_some _ e))
  refine wpAny_bind (wpAny_newList (wpAny_pure ?_) (by simp; omega))
  have z := h g2 tk kp
  simpa using z
end
end PySem.W
namespace Od
open PySem L2
section
variable {X : Cx} {M : Addr → Prop} {e : DE} {cs cs1 : Cs} {pos : Pos} {ex : Expr} {ds : List D} {d : D} {n m : Str} {fr : Frs} {rest : List Stmt} {D0 : Ends}
theorem pg_head {px py ps pt : Pos} {kt : Nat} {i j : Nat} (hc : X.calm = true) (hn : PG X (.Name n px) (gName i)) (hm : PG X (.Name m py) (gName j))
    (h1 : (assignEach [.Name n px, .Starred (.Name m py) ps] X.env).length = 2) (h2 : (assignEach [.Name n px, .Starred (.Name m py) ps] X.env).findIdx? (·.1) = some 1) (h3 : (assignEach [.Name n px, .Starred (.Name m py) ps] X.env).map (·.2) = [assign (.Name n px) X.env, assign (.Name m py) X.env]) :
    PG X (.Tuple [.Name n px, .Starred (.Name m py) ps] kt pt) (fun v σ H Q => ∃ a x xs, v = .ref a ∧ SqT X.K H a (x :: xs) ∧ xs.length ≤ 10000 ∧ ∀ p, H p = none → gName i x σ (upd H p (.lst xs)) fun σ1 H1 => gName j (.ref p) σ1 H1 Q) := by
  refine ⟨fun pins s σ H v u Q I r ⟨a, x, xs, ev, hq, hl, w⟩ => ?_⟩
  subst ev
  cases (show u = Value.ref a from r)
  obtain ⟨its, rv, ht, hz⟩ := I.tuple hq
  cases rv with
  | @cons _ u0 _ us rx rxs =>
    have hlen := rxs.length
    rw [PyProof.Rows.assign_Tuple]
    refine wpAny_bind (wpAny_standAt ?_)
    unfold unpack
    rw [h1, h2]
    refine wpAny_bind (wpAny_holding (PySem.W.od_head ht (I.ok.hd hc) rfl (by simp; omega) fun h' tk kp => ?_))
    have I1 : Inv X pins σ H { s with heap := h', toks := tk } := I.kept kp
    have nw : H h'.objs.size = none := I1.hok.fresh (Nat.le_refl _)
    have I2 : Inv X pins σ (upd H h'.objs.size (.lst xs)) { s with heap := h'.push { cls := .type "list", data := .seq us.toArray }, toks := tk } :=
      I1.laid (t' := tk) (fun b o e => Heap.get?_push_of_some _ e) (Nat.le_refl _) (show ObjOk X.prog X.w _ _ _ (.lst xs) from ⟨Nat.le_trans hl (by decide), us, 0, rxs, Heap.get?_push_size _ rfl⟩)
    rw [h3]
    unfold assignInOrder
    refine wpAny_bind (wpAny_holding (wpAny_mono (hn.run pins _ σ _ x u0 _ I2 rx (w _ nw)) (fun _ s2 ⟨σ2, H2, I3, q2⟩ => ?_) fun _ _ z => z))
    unfold assignInOrder
    refine wpAny_bind (wpAny_holding (wpAny_mono (hm.run pins s2 σ2 H2 (.ref h'.objs.size) (.ref h'.objs.size) _ I3 rfl q2) (fun _ s3 q3 => ?_) fun _ _ z => z))
    unfold assignInOrder
    exact wpAny_pure q3
/-- n, *m = t -/
theorem at_head {px py ps pt : Pos} {kt : Nat} (i j : Nat) (ha : EE X M e cs ex (.tup (d :: ds)) cs1) (k : At X M ((e.set i (some d)).set j (some (.lst ds))) cs1 fr (wSs X rest D0)) (hl : ds.length ≤ 10000) (hN : X.N.Nodup) (hi : X.N[i]? = some n := by rfl) (hj : X.N[j]? = some m := by rfl)
    (hx : Loc X.env.scope n := by first | exact .inl rfl | exact .inr rfl) (hx2 : Loc X.env.scope m := by first | exact .inl rfl | exact .inr rfl) (hf : X.fn n = true ∨ X.env.scope.names.lookup n = some .local := by first | exact .inl rfl | exact .inr rfl) (hf2 : X.fn m = true ∨ X.env.scope.names.lookup m = some .local := by first | exact .inl rfl | exact .inr rfl) (hc : X.calm = true := by rfl)
    (hs : swapsWithSole [.Tuple [.Name n px, .Starred (.Name m py) ps] kt pt] ex pos.line X.env = pure false := by rfl) (hw : swappedStores [.Tuple [.Name n px, .Starred (.Name m py) ps] kt pt] ex X.env = pure none := by rfl)
    (h0 : (assignEach [.Tuple [.Name n px, .Starred (.Name m py) ps] kt pt] X.env).map (·.2) = [assign (.Tuple [.Name n px, .Starred (.Name m py) ps] kt pt) X.env] := by rfl)
    (h1 : (assignEach [.Name n px, .Starred (.Name m py) ps] X.env).length = 2 := by rfl) (h2 : (assignEach [.Name n px, .Starred (.Name m py) ps] X.env).findIdx? (·.1) = some 1 := by rfl) (h3 : (assignEach [.Name n px, .Starred (.Name m py) ps] X.env).map (·.2) = [assign (.Name n px) X.env, assign (.Name m py) X.env] := by rfl) :
    At X M e cs fr (wSs X (.Assign [.Tuple [.Name n px, .Starred (.Name m py) ps] kt pt] ex pos :: rest) D0) := fun σ H S x l =>
  wss_of (pss_cons (ps_asg pe_w (pg_head hc (pg_name hN hi hx hf) (pg_name hN hj hx2 hf2) h1 h2 h3) hs hw h0) pss_w) (ha.k σ H _ S fun v H1 S1 x1 r1 => by
    obtain ⟨ad, xs, rfl, hq, rr⟩ := r_tup r1
    match xs, rr with
    | u :: us, rr =>
      have hlen := rr.length
      unfold Rs at rr
      obtain ⟨ru, rr⟩ := rr
      refine ⟨ad, u, us, rfl, hq, by rw [rr.length]; exact hl, fun p hp => ?_⟩
      have xn : Ext [] H1 (upd H1 p (.lst us)) := Ext.new hp
      have S2 := S1.ex xn
      exact k _ _ ((S2.set i (S1.r (xn.mono (by simp)) ru)).set j (r_newl S1.mt hp rr)) (ext_on (ext_on x l x1) (lo_of l ha.dm) (xn.mono (by simp))) (lo_of l ha.dm))
end
end Od

set_option Elab.async false
set_option linter.all false
set_option maxRecDepth 100000
set_option maxHeartbeats 4000000
/-! Fop: operators of formulas, with right operands of every kind; chains. -/
namespace Od
open PySem L2 TL PySem.Spec
abbrev sNeed : Stmt := top 17
abbrev sAnd : Stmt := inClass sCls 16
abbrev sOr : Stmt := inClass sCls 17
abbrev sShr : Stmt := inClass sCls 18
local macro_rules
  | `(tactic| walk_at "le") => `(tactic| repeat (first | exact LeD.nil | apply LeD.drop | apply LeD.same))
local macro_rules
  | `(tactic| walk_at "bd") => `(tactic| first | exact bd_add | exact bd_sub | exact bd_mulR (by decide) | exact bd_mulL (by decide) | exact bd_mod (by decide) | exact bd_div (by decide))
local macro_rules
  | `(tactic| walk_at "cd") => `(tactic| first | exact cd_lt | exact cd_le | exact cd_gt | exact cd_ge | exact cd_eqI | exact cd_eqS | exact cd_eqB)
section
variable {P : Program} {w : World} {K : PySem.W.Frag} {mg : Str → Option Value} {base : Heap}
abbrev NeedD (P : Program) (w : World) (K : PySem.W.Frag) (mg : Str → Option Value) (base : Heap) (k : Nat) : Prop := Dfn P w K mg base "need_formula" k (puSp K mg (fun _ : Fm => True) (fun f => [f.o]) (fun f => f.o))
abbrev BinD' (P : Program) (w : World) (K : PySem.W.Frag) (mg : Str → Option Value) (base : Heap) (n : Str) (o : Op) (k : Nat) : Prop := Dun P w K mg base "Formula" n k (puSp K mg (fun p : Fm × Fm => p.1.ok ∧ p.2.ok ∧ p.1.sz + p.2.sz < 10000) (fun p => [p.1.o, p.2.o]) (fun p => (Fm.bin o p.1 p.2).o))
theorem scNeed : FnScope ["value"] ["value"] (defScope sNeed) := ⟨rfl, rfl, rfl, by decide +kernel, rfl, by decide +kernel, by decide +kernel⟩
theorem ok_need {f C : Addr} {fd : FuncData} (F : Fun K "need_formula" "need_formula" sNeed f fd) (hm : mg "need_formula" = some (.ref f)) (hb : Binds K fd ["value"] []) (B : Blt mg) (T : FmT w K mg C) : NeedD P w K mg base 1 := by
  refine dfn_of F hm scNeed hb (fun i => rfl) fun cdv A outer s H0 E g M Q hp hr kq => ?_
  refine at_if (b0 := false) (cs1 := []) ?_ (fun h => by cases h) (fun _ => at_nil ?_)
  · exact t_not (k0 := true) (t_val (e_blt (kd_isiOC T.hm T.ci T.kit) (a_cons ((e_name 0 rfl).eq g.o_eq) (a_cons (e_gref T.hm) a_nil)) B.isinstance))
  · exact at_end (e_name 0 rfl) rfl (.head _) kq
theorem scAnd : FnScope ["self", "other"] ["self", "other"] (defScope sAnd) := ⟨rfl, rfl, rfl, by decide +kernel, rfl, by decide +kernel, by decide +kernel⟩
theorem scOr : FnScope ["self", "other"] ["self", "other"] (defScope sOr) := ⟨rfl, rfl, rfl, by decide +kernel, rfl, by decide +kernel, by decide +kernel⟩
theorem scShr : FnScope ["self", "other"] ["self", "other"] (defScope sShr) := ⟨rfl, rfl, rfl, by decide +kernel, rfl, by decide +kernel, by decide +kernel⟩
theorem ok_and {f : Addr} {fd : FuncData} (F : Fun K "__and__" "Formula.__and__" sAnd f fd) (hC : ∃ C, mg "Formula" = some (.ref C) ∧ PySem.W.findIn K (.ref C) "__and__" = some (some (.ref f)) ∧ PySem.W.isFn K (.ref f) = true) (hb : Binds K fd ["self", "other"] []) (MK : MkF P w K mg base 5) (N : NeedD P w K mg base 1) : BinD' P w K mg base "__and__" .an 7 := by
  refine dun_of hC F scAnd hb (fun i => rfl) fun cdv A outer s H0 E g M Q hp hr kq => ?_
  obtain ⟨g1, g2⟩ := g
  obtain ⟨h1, h2, h3⟩ := hp
  exact at_end (e_mk MK hr (a_cons e_str (a_cons (e_name 0 rfl) (a_cons (e_call N (hr.mono (by decide)) (a_cons (e_name 1 rfl) a_nil) g2 trivial rfl) a_nil))) (.bin .an g1 g2) ⟨⟨h1, h2⟩, by simp only [Fm.sz]; simp only at h3; omega⟩ rfl) rfl (.head _) kq
theorem ok_or {f : Addr} {fd : FuncData} (F : Fun K "__or__" "Formula.__or__" sOr f fd) (hC : ∃ C, mg "Formula" = some (.ref C) ∧ PySem.W.findIn K (.ref C) "__or__" = some (some (.ref f)) ∧ PySem.W.isFn K (.ref f) = true) (hb : Binds K fd ["self", "other"] []) (MK : MkF P w K mg base 5) (N : NeedD P w K mg base 1) : BinD' P w K mg base "__or__" .orr 7 := by
  refine dun_of hC F scOr hb (fun i => rfl) fun cdv A outer s H0 E g M Q hp hr kq => ?_
  obtain ⟨g1, g2⟩ := g
  obtain ⟨h1, h2, h3⟩ := hp
  exact at_end (e_mk MK hr (a_cons e_str (a_cons (e_name 0 rfl) (a_cons (e_call N (hr.mono (by decide)) (a_cons (e_name 1 rfl) a_nil) g2 trivial rfl) a_nil))) (.bin .orr g1 g2) ⟨⟨h1, h2⟩, by simp only [Fm.sz]; simp only at h3; omega⟩ rfl) rfl (.head _) kq
theorem ok_shr {f : Addr} {fd : FuncData} (F : Fun K "__rshift__" "Formula.__rshift__" sShr f fd) (hC : ∃ C, mg "Formula" = some (.ref C) ∧ PySem.W.findIn K (.ref C) "__rshift__" = some (some (.ref f)) ∧ PySem.W.isFn K (.ref f) = true) (hb : Binds K fd ["self", "other"] []) (MK : MkF P w K mg base 5) (N : NeedD P w K mg base 1) : BinD' P w K mg base "__rshift__" .im 7 := by
  refine dun_of hC F scShr hb (fun i => rfl) fun cdv A outer s H0 E g M Q hp hr kq => ?_
  obtain ⟨g1, g2⟩ := g
  obtain ⟨h1, h2, h3⟩ := hp
  exact at_end (e_mk MK hr (a_cons e_str (a_cons (e_name 0 rfl) (a_cons (e_call N (hr.mono (by decide)) (a_cons (e_name 1 rfl) a_nil) g2 trivial rfl) a_nil))) (.bin .im g1 g2) ⟨⟨h1, h2⟩, by simp only [Fm.sz]; simp only at h3; omega⟩ rfl) rfl (.head _) kq

end
section
variable {X : Cx} {M : Addr → Prop} {e : DE} {cs cs1 cs2 cs3 : Cs} {pos p pos' apos : Pos} {a c ex o x : Expr}
theorem e_neg' {f : Fm} {k : Nat} {d : D} (F : NegD X.prog X.w X.K X.mg X.base k) (hr : Room k X.A) (hp : f.ok ∧ f.sz ≤ 9998) (ha : EE X M e cs a f.o cs1) (hd : (Fm.bin .im f (.cst false)).o = d := by rfl) : EE X M e cs (.UnaryOp .USub a pos) d cs1 :=
  (e_un (ha.eq f.o_eq) (ud_own (cn := "Formula") (ns := fnames) (ds := f.fs) F hr f hp (by rw [f.o_eq]))).eq hd
theorem e_opF {op : Operator} {nm : Str} {q : Op} {f g : Fm} {k : Nat} {d : D} (F : BinD' X.prog X.w X.K X.mg X.base nm q k) (hsf : ∀ C, X.mg "Formula" = some (.ref C) → PySem.W.selfFirst X.K C = true) (hr : Room k X.A) (hp : f.ok ∧ g.ok ∧ f.sz + g.sz < 10000) (ha : EE X M e cs a f.o cs1) (hb : EE X M e cs1 x g.o cs2) (hd : (Fm.bin q f g).o = d := by rfl) (hi : PySem.dunder op.info.2 = nm := by rfl) : EE X M e cs (.BinOp a op x pos) d cs2 :=
  (e_bin (ha.eq f.o_eq) (hb.eq g.o_eq) (bd_own (cn := "Formula") (ns := fnames) (ds := f.fs) (es' := g.fs) F hsf hr (f, g) hp (by rw [f.o_eq, g.o_eq]) hi)).eq hd
end
/-! ### what is no formula -/
abbrev badFm (d : D) : Xc := ⟨"InvalidFormula", ["code", "given"], [.str "InvalidFormula", d]⟩
def kinds7 : List String := ["NoneType", "bool", "int", "str", "list", "tuple", "dict"]
theorem tyN_kind {d : D} {t : String} (h : tyN d = some t) : t ∈ kinds7 := by
  cases d <;> simp [tyN] at h <;> subst h <;> decide
def NoFm (K : PySem.W.Frag) (C : Addr) : Prop := ∀ t ∈ kinds7, PySem.W.kitOne K (.type t) (.ref C) = some false
def BadV (d : D) : Prop := ∃ t, tyN d = some t
section
variable (P : Program) (w : World) (K : PySem.W.Frag) (mg : Str → Option Value) (base : Heap)
abbrev NeedX (k : Nat) : Prop := ∀ d : D, BadV d → Fn P w K mg base "need_formula" k [d] [] (.err (badFm d)) []
abbrev OpX (n : Str) (k : Nat) : Prop := ∀ (f : Fm) (d : D), BadV d → Du P w K mg base "Formula" n k [f.o, d] (.err (badFm d))
variable {P w K mg base}
theorem ok_needX {f C XC : Addr} {fd : FuncData} (F : Fun K "need_formula" "need_formula" sNeed f fd) (hm : mg "need_formula" = some (.ref f)) (hb : Binds K fd ["value"] []) (B : Blt mg) (T : FmT w K mg C) (NF : NoFm K C) (XE : Ox.Err1 P w K mg "InvalidFormula" "InvalidFormula" "given" XC) : NeedX P w K mg base 2 := fun d hd => by
  obtain ⟨t, ht⟩ := hd
  refine fn_of' F hm scNeed hb (k := 1) fun cdv A outer s H0 E M Q hr hM kq => ?_
  refine at_if (b0 := true) (cs1 := []) ?_ (fun _ => ?_) fun h => by cases h
  · exact t_not (k0 := false) (t_val (e_blt (kd_isiC ht (NF t (tyN_kind ht))) (a_cons (e_name 0 rfl) (a_cons (e_gref T.hm) a_nil)) B.isinstance))
  · exact at_raise1G XE (e_name 0 rfl) hr (.head _) (fun _ h => h) (fun _ h => h) (by simp) kq
theorem ok_andX {f : Addr} {fd : FuncData} (F : Fun K "__and__" "Formula.__and__" sAnd f fd) (hC : ∃ C, mg "Formula" = some (.ref C) ∧ PySem.W.findIn K (.ref C) "__and__" = some (some (.ref f)) ∧ PySem.W.isFn K (.ref f) = true) (hb : Binds K fd ["self", "other"] []) (MK : MkF P w K mg base 5) (N : NeedX P w K mg base 2) : OpX P w K mg base "__and__" 7 := fun g d hd =>
  du_of hC F scAnd hb (k := 6) fun cdv A outer s H0 E M Q hr hM kq => at_xret (x_maA MK hr (xa_there e_str (xa_there (e_name 0 rfl) (xa_here (x_fn (N d hd) (hr.mono (by decide)) (a_cons (e_name 1 rfl) a_nil) sw0))))) (.head _) kq
theorem ok_orX {f : Addr} {fd : FuncData} (F : Fun K "__or__" "Formula.__or__" sOr f fd) (hC : ∃ C, mg "Formula" = some (.ref C) ∧ PySem.W.findIn K (.ref C) "__or__" = some (some (.ref f)) ∧ PySem.W.isFn K (.ref f) = true) (hb : Binds K fd ["self", "other"] []) (MK : MkF P w K mg base 5) (N : NeedX P w K mg base 2) : OpX P w K mg base "__or__" 7 := fun g d hd =>
  du_of hC F scOr hb (k := 6) fun cdv A outer s H0 E M Q hr hM kq => at_xret (x_maA MK hr (xa_there e_str (xa_there (e_name 0 rfl) (xa_here (x_fn (N d hd) (hr.mono (by decide)) (a_cons (e_name 1 rfl) a_nil) sw0))))) (.head _) kq
theorem ok_shrX {f : Addr} {fd : FuncData} (F : Fun K "__rshift__" "Formula.__rshift__" sShr f fd) (hC : ∃ C, mg "Formula" = some (.ref C) ∧ PySem.W.findIn K (.ref C) "__rshift__" = some (some (.ref f)) ∧ PySem.W.isFn K (.ref f) = true) (hb : Binds K fd ["self", "other"] []) (MK : MkF P w K mg base 5) (N : NeedX P w K mg base 2) : OpX P w K mg base "__rshift__" 7 := fun g d hd =>
  du_of hC F scShr hb (k := 6) fun cdv A outer s H0 E M Q hr hM kq => at_xret (x_maA MK hr (xa_there e_str (xa_there (e_name 0 rfl) (xa_here (x_fn (N d hd) (hr.mono (by decide)) (a_cons (e_name 1 rfl) a_nil) sw0))))) (.head _) kq
end
end Od

set_option Elab.async false
set_option linter.all false
set_option maxRecDepth 100000
set_option maxHeartbeats 4000000
/-! Pst: texts in order. -/
namespace Od
open PySem L2 TL PySem.Spec
/-- a stands ahead of b -/
def lsS (a b : Str) : Prop := tl a < tl b
instance (a b : Str) : Decidable (lsS a b) := by unfold lsS; infer_instance
theorem lsS_irrefl (a : Str) : ¬ lsS a a := List.lt_irrefl _
theorem lsS_trans {a b c : Str} : lsS a b → lsS b c → lsS a c := List.lt_trans
theorem lsS_anti {a b : Str} (h1 : ¬ lsS a b) (h2 : ¬ lsS b a) : a = b := ext_tl (List.le_antisymm (List.not_lt.mp h2) (List.not_lt.mp h1))
theorem lsS_ntrans {a b c : Str} (h1 : ¬ lsS b a) (h2 : ¬ lsS c b) : ¬ lsS c a := by
  have h1' : tl a ≤ tl b := List.not_lt.mp h1
  have h2' : tl b ≤ tl c := List.not_lt.mp h2
  exact List.not_lt.mpr (List.le_trans h1' h2')
theorem lsS_of {a b : Str} (h : ¬ lsS b a) (hn : a ≠ b) : lsS a b := Decidable.byContradiction fun z => hn (lsS_anti z h)
theorem rising_pw : ∀ (r : List Str) (p : Str), PyProof.Rows.risingS p r = true → (p :: r).Pairwise fun a b => ¬ lsS b a
  | [], p, _ => by simp
  | x :: r, p, h => by
    have h' : (!PySem.Spec.ltCps x.cps.toList p.cps.toList && PyProof.Rows.risingS x r) = true := h
    rw [Bool.and_eq_true, PyProof.Rows.ltCps_eq] at h'
    have hx : ¬ lsS x p := by simpa [lsS, tl] using h'.1
    have ih := rising_pw r x h'.2
    refine List.pairwise_cons.mpr ⟨fun y hy => ?_, ih⟩
    rcases List.mem_cons.mp hy with rfl | hy
    · exact hx
    · exact lsS_ntrans hx ((List.pairwise_cons.mp ih).1 y hy)
theorem sorted_pw : ∀ {ys : List Str}, PyProof.Rows.sortedS ys = true → ys.Pairwise fun a b => ¬ lsS b a
  | [], _ => .nil
  | x :: r, h => rising_pw r x h
def srtS (ss : List Str) : List Str := ss.mergeSort (fun a b => decide (¬ lsS b a))
theorem srtS_perm (ss : List Str) : (srtS ss).Perm ss := List.mergeSort_perm _ _
theorem srtS_pw (ss : List Str) : (srtS ss).Pairwise fun a b => ¬ lsS b a := by
  have := List.pairwise_mergeSort (le := fun a b : Str => decide (¬ lsS b a)) (fun a b c h1 h2 => by
    simp only [decide_eq_true_eq] at *
    exact lsS_ntrans h1 h2) (fun a b => by
    simp only [Bool.or_eq_true, decide_eq_true_eq]
    by_cases h : lsS b a
    · exact .inr fun z => lsS_irrefl _ (lsS_trans h z)
    · exact .inl h) ss
  exact this.imp (by simp)
theorem sortS_all {ys ss : List Str} (h : ys.Perm ss) (s : PyProof.Rows.sortedS ys = true) : ys = srtS ss :=
  (h.trans (srtS_perm ss).symm).eq_of_pairwise (fun a b _ _ h1 h2 => lsS_anti h2 h1) (sorted_pw s) (srtS_pw ss)
/-- all that stands ahead of m in order is smaller -/
theorem split_at {ys : List Str} {m : Str} (h : ys.Pairwise fun a b => ¬ lsS b a) (nd : ys.Nodup) (hm : m ∈ ys) : ∃ pre rest, ys = pre ++ m :: rest ∧ ∀ x ∈ pre, lsS x m := by
  obtain ⟨pre, rest, rfl⟩ := List.append_of_mem hm
  refine ⟨pre, rest, rfl, fun x hx => ?_⟩
  have h1 := (List.pairwise_append.mp h).2.2 x hx m (List.mem_cons_self ..)
  have h2 := (List.nodup_append.mp nd).2.2 x hx m (List.mem_cons_self ..)
  exact lsS_of h1 h2
end Od

set_option Elab.async false
set_option linter.all false
set_option maxRecDepth 100000
set_option maxHeartbeats 4000000
/-! Ox8: a method called by a keyword. -/
namespace Od
open PySem L2
/-- self by place, the other by name -/
def kg : List Value → List Value → List Value
  | [u], [v] => [u, v]
  | _, _ => []
def kgV : List V → List V → List V
  | [u], [v] => [u, v]
  | _, _ => []
theorem kg_rel {vs : List V} {us : List Value} {zs : List V} {ws : List Value} (h : Vals vs us) (h2 : Vals zs ws) : Vals (kgV vs zs) (kg us ws) := by
  cases h with
  | nil => exact .nil
  | cons r1 r2 =>
    cases r2 with
    | cons _ _ => exact .nil
    | nil =>
      cases h2 with
      | nil => exact .nil
      | cons q1 q2 =>
        cases q2 with
        | cons _ _ => exact .nil
        | nil => exact .cons r1 (.cons q1 .nil)
structure MthK (P : Program) (w : World) (K : PySem.W.Frag) (mg : Str → Option Value) (base : Heap) (c m kw : Str) (k : Nat) (sp : Sp) : Prop where
  ex : ∃ C f fd ps, mg c = some (.ref C) ∧ Cls K C ∧ Meth K C m f ∧ FnOk P w K mg base (L2.CX P w) k f fd ps sp ∧ KBinds K fd ps [kw] kg kgV
section
variable {X : Cx} {M : Addr → Prop} {e : DE} {cs cs1 cs2 : Cs} {pos p apos : Pos} {a o : Expr} {d x : D} {gs : List D} {ns : List Str} {n m cn : Str} {k : Nat}
theorem e_meK {kw : String} {kp : Pos} {pl : Sem Bool} (F : MthK X.prog X.w X.K X.mg X.base cn m (Str.ofString kw) k (outSp X.K X.mg [.obj cn ns gs, x] [] (.ok d) [])) (hr : Room k X.A) (ho : EE X M e cs o (.obj cn ns gs) cs1) (ha : EE X M e cs1 a x cs2) (hnm : m ∉ ns := by decide +kernel)
    (hall : (backToKw pos (keywordEach [⟨some kw, a, kp⟩] X.env)).all (·.1.isSome) = true := by rfl) (hks : (backToKw pos (keywordEach [⟨some kw, a, kp⟩] X.env)).filterMap (·.1) = [Str.ofString kw] := by rfl)
    (hpl : ((backTo pos (starEach [] X.env)).any (·.1) || (backToKw pos (keywordEach [⟨some kw, a, kp⟩] X.env)).any (·.1.isNone)) = false := by rfl)
    (ht : eval (.Call (.Attribute o m apos) [] [⟨some kw, a, kp⟩] pos) X.env = (do
      let ov ← eval o X.env
      standAt apos.atName
      let (f, first) ← holding [ov] (getMethod ov m pl)
      callWith pos f first (backTo pos (starEach [] X.env)) (backToKw pos (keywordEach [⟨some kw, a, kp⟩] X.env))) := by rfl) : EE X M e cs (.Call (.Attribute o m apos) [] [⟨some kw, a, kp⟩] pos) d cs2 where
  dm := ha.dm.trans ho.dm
  k := fun σ H Q S k => by
    obtain ⟨C, f, fd, ps, hm, hc, hmt, F, kb⟩ := F.ex
    have pe : PE X (.Call (.Attribute o m apos) [] [⟨some kw, a, kp⟩] pos) (fun σ H Q => wE X o σ H fun y H1 => ∃ ad dx fs, y = .ref ad ∧ H1 ad = some (.ins C dx fs) ∧ fs.lookup m = none ∧ tCons (wE X a) tNil σ H1 fun zs H2 => outSp X.K X.mg [.obj cn ns gs, x] [] (.ok d) [] (kgV [y] zs) H2 Q E0) := by
      refine ⟨fun pins s σ H Q I h => PySem.W.methodCall_KW (pl := pl) (thn (pe_w.run pins s σ H _ I h) fun u s1 ⟨y, H1, I1, rx, ad, dx, fs, ex', ea, l, q⟩ => ?_) ht⟩
      subst ex'
      obtain rfl : u = Value.ref ad := rx
      refine getmeth_ok I1 ea hc hmt l ?_
      refine PySem.W.callWith_KW0 (first := [.ref ad]) (h₀ := X.base) I1.ok.mod.kin hmt.kp hall (thn ((pk_cons pe_w pk_nil).run pos pins s1 σ H1 _ I1 q) fun ws s3 ⟨zs, H2, I3, rz, q2⟩ => ⟨I3.kIn, ?_⟩) hpl
      rw [hks]
      exact run_fnk (us := [.ref ad]) (vs := [.ref ad]) F hr kb passL I3 (.cons rfl .nil) rz q2
    refine we_of pe (ho.k σ H _ S fun v H1 S1 x1 r1 => ?_)
    obtain ⟨ad, C', dx, xs, rfl, _, hm', hob, hl, rs⟩ := r_obj r1
    rw [hm] at hm'; cases hm'
    refine ⟨ad, dx, _, rfl, hob, zip_lookup_none hnm, ha.k σ H1 _ S1 fun u H2 S2 x2 r2 => ?_⟩
    show outSp X.K X.mg [.obj cn ns gs, x] [] (.ok d) [] [.ref ad, u] H2 Q E0
    exact out_use S2 (.cons (S1.r x2 r1) (.cons r2 .nil)) sw0 fun v H' S3 x3 r3 => k v H' S3 (x1.trans (by rw [← ho.dm]; exact x2.trans (by rw [← ha.dm]; exact x3))) r3
end
end Od

set_option Elab.async false
set_option linter.all false
set_option maxRecDepth 100000
set_option maxHeartbeats 4000000
/-! Ff2: wrong fillings; filled by a keyword. -/
namespace Od
open PySem L2 TL PySem.Spec
local macro_rules
  | `(tactic| walk_at "le") => `(tactic| repeat (first | exact LeD.nil | apply LeD.drop | apply LeD.same))
abbrev badFl (m : Str) : Xc := ⟨"InvalidFilling", ["code", "key"], [.str "InvalidFilling", .str m]⟩
/-- a filling with a wrong entry: m the first wrong key -/
structure BadI where
  ss : List Str
  vl : Str → D
  m : Str
def BadI.dict (i : BadI) : D := .dic (i.ss.map Sum.inr) (i.ss.map i.vl)
structure BadI.Pre (i : BadI) : Prop where
  nd : i.ss.Nodup
  len : i.ss.length < 64
  mem : i.m ∈ i.ss
  small : ∀ x ∈ i.ss, x.length ≤ 100000
  good : ∀ x ∈ i.ss, lsS x i.m → isLet x = true ∧ ∃ f : Fm, i.vl x = f.o
  bad : isLet i.m = false ∨ (isLet i.m = true ∧ BadV (i.vl i.m))
theorem dvl_map (vl : Str → D) (x : Str) : ∀ ss : List Str, x ∈ ss → dvl (ss.map Sum.inr) (ss.map vl) (Sum.inr x) = some (vl x)
  | [], h => by cases h
  | s :: ss, h => by
    show (if (Sum.inr s : Key) = Sum.inr x then some (vl s) else dvl (ss.map Sum.inr) (ss.map vl) (Sum.inr x)) = _
    by_cases e : s = x
    · rw [if_pos (by rw [e]), e]
    · rw [if_neg (fun z => e (by injection z)), dvl_map vl x ss ((List.mem_cons.mp h).resolve_left fun z => e z.symm)]
section
variable (P : Program) (w : World) (K : PySem.W.Frag) (mg : Str → Option Value) (base : Heap)
abbrev ChkX (k : Nat) : Prop := ∀ i : BadI, i.Pre → Fn P w K mg base "check_filling" k [i.dict] [] (.err (badFl i.m)) []
abbrev FilledX (k : Nat) : Prop := ∀ (g : Fm) (i : BadI), i.Pre → Me P w K mg base "Formula" "filled" k [g.o, i.dict] [] (.err (badFl i.m)) []
abbrev FilledK (n k : Nat) : Prop := ∀ i : Fm × Fil, FilPre i → i.1.nest ≤ n → MthK P w K mg base "Formula" "filled" "filling" k (outSp K mg [i.1.o, i.2.dict Fm.o] [] (.ok (sub i.2.f i.1).o) [])
variable {P w K mg base}
theorem ok_chkX {f C XC : Addr} {fd : FuncData} (F : Fun K "check_filling" "check_filling" sChk f fd) (hm : mg "check_filling" = some (.ref f)) (hb : Binds K fd ["filling"] []) (B : Blt mg) (T : FmT w K mg C) (L : IsLetD P w K mg base 2) (NF : NoFm K C) (XE : Ox.Err1 P w K mg "InvalidFilling" "InvalidFilling" "key" XC) : ChkX P w K mg base 4 := fun i hp => by
  refine fn_of' F hm scChk hb (k := 3) fun cdv A outer s H0 E M Q hr hM kq => ?_
  have hu := hu_of hr
  have hperm := srtS_perm i.ss
  have hnd : (srtS i.ss).Nodup := hperm.nodup_iff.mpr hp.nd
  obtain ⟨pre, rest, hsp, hpre⟩ := split_at (srtS_pw i.ss) hnd (hperm.mem_iff.mpr hp.mem)
  refine at_for (α := fun _ => Unit) (ds := (srtS i.ss).map D.str) (fun j _ => j ≤ pre.length) (fun _ _ => [some i.dict, none]) (fun _ _ => [])
    (ei_list (e_blt (kd_sortedD (ss := i.ss) rfl hp.len fun ys hy hs => sortS_all hy hs) (a_cons (e_name 0 rfl) a_nil) B.sorted)) (ltg_name 1 scChk.nd) (fun _ _ => trivial) () (Nat.zero_le _) rfl rfl (fun _ _ _ => rfl) (fun j d u H1 hd hj => ?_) fun u hj => ?_
  · obtain ⟨x, hx, rfl⟩ : ∃ x, (srtS i.ss)[j]? = some x ∧ d = .str x := by
      rw [List.getElem?_map] at hd
      cases h : (srtS i.ss)[j]? with
      | none => rw [h] at hd; cases hd
      | some x => rw [h] at hd; exact ⟨x, rfl, (Option.some.inj hd).symm⟩
    have hxm : x ∈ i.ss := hperm.mem_iff.mp (List.mem_of_getElem? hx)
    have hv := dvl_map i.vl x i.ss hxm
    have hlx := hp.small x hxm
    rw [hsp] at hx
    rcases Nat.lt_or_ge j pre.length with h | h
    · rw [List.getElem?_append_left h] at hx
      obtain ⟨h1, g, h2⟩ := hp.good x hxm (hpre x (List.mem_of_getElem? hx))
      refine at_if (b0 := false) (cs1 := []) (ET.eq (t_ew (t_or (p0 := false) (q0 := false) (t_not (k0 := true) (t_val (EE.eq (e_call L (hr.mono (by decide)) (a_cons (e_name 1 rfl) a_nil) x hlx rfl) (congrArg D.bl h1)))) fun _ => t_or1 (t_not (k0 := true) (t_val (e_blt (kd_isiOC T.hm T.ci T.kit) (a_cons ((e_dix (e_name 0 rfl) (e_name 1 rfl) hv hu).eq (h2.trans g.o_eq)) (a_cons (e_gref T.hm) a_nil)) B.isinstance))))) rfl) (fun h => by cases h) (fun _ => at_nil ?_)
      exact at_nil (at_go (at_inv (e := [some i.dict, none]) () (by show j + 1 ≤ pre.length; omega) rfl rfl) (by walk_at "le") rfl)
    · have hje : j = pre.length := by omega
      subst hje
      rw [List.getElem?_append_right (Nat.le_refl _), Nat.sub_self] at hx
      obtain rfl : i.m = x := Option.some.inj hx
      refine at_if (b0 := true) (cs1 := []) ?_ (fun _ => at_raise1G XE (e_name 1 rfl) (k := 3) hr (.tail _ (.head _)) (fun _ h => h) (fun _ h => h) (by simp) kq) fun h => by cases h
      rcases hp.bad with h1 | ⟨h1, t, ht⟩
      · exact ET.eq (t_ew (t_or (p0 := true) (q0 := true) (t_not (k0 := false) (t_val (EE.eq (e_call L (hr.mono (by decide)) (a_cons (e_name 1 rfl) a_nil) i.m hlx rfl) (congrArg D.bl h1)))) fun h => by cases h)) rfl
      · exact ET.eq (t_ew (t_or (p0 := false) (q0 := true) (t_not (k0 := true) (t_val (EE.eq (e_call L (hr.mono (by decide)) (a_cons (e_name 1 rfl) a_nil) i.m hlx rfl) (congrArg D.bl h1)))) fun _ => t_or1 (t_not (k0 := false) (t_val (e_blt (kd_isiC ht (NF t (tyN_kind ht))) (a_cons (e_dix (e_name 0 rfl) (e_name 1 rfl) hv hu) (a_cons (e_gref T.hm) a_nil)) B.isinstance))))) rfl
  · exfalso
    have : ((srtS i.ss).map D.str).length = pre.length + 1 + rest.length := by rw [List.length_map, hsp]; simp; omega
    omega
theorem ok_filledX {f : Addr} {fd : FuncData} (F : Fun K "filled" "Formula.filled" sFilled f fd) (hC : ∃ C, mg "Formula" = some (.ref C) ∧ Cls K C ∧ Meth K C "filled" f) (hb : Binds K fd ["self", "filling"] []) (CH : ChkX P w K mg base 4) : FilledX P w K mg base 5 := fun g i hp =>
  me_of hC F scFilled hb (k := 4) fun cdv A outer s H0 E M Q hr hM kq => at_xexprG (x_fn (CH i hp) hr (a_cons (e_name 1 rfl) a_nil) sw0) (.head _) (fun _ h => h) (fun _ h => h) (by simp) kq
theorem ok_filledK {f : Addr} {fd : FuncData} (F : Fun K "filled" "Formula.filled" sFilled f fd) (hC : ∃ C, mg "Formula" = some (.ref C) ∧ Cls K C ∧ Meth K C "filled" f) (hb : KBinds K fd ["self", "filling"] ["filling"] kg kgV) (CH : ChkD P w K mg base 3) {n k : Nat} (hk : 3 ≤ k) (W : WithD P w K mg base n k) : FilledK P w K mg base n (k + 1) := fun i hp hn => by
  obtain ⟨C, hm, h1, h2⟩ := hC
  refine ⟨C, f, fd, ["self", "filling"], hm, h1, h2, fnokO_of F scFilled rfl fun cdv A outer s H0 E M Q hr hM kq => ?_, hb⟩
  refine at_expr (cs1 := []) (e_call CH (hr.mono hk) (a_cons (e_name 1 rfl) a_nil) i.2 hp.gok rfl) ?_
  exact at_end (d := (sub i.2.f i.1).o) (EE.eq (e_call W hr (a_cons (e_name 0 rfl) (a_cons (e_name 1 rfl) a_nil)) i ⟨hp, hn⟩ rfl) rfl) rfl (.head _) kq
end
section
variable {X : Cx} {M : Addr → Prop} {e : DE} {cs cs1 cs2 cs3 : Cs} {pos p pos' apos : Pos} {a c ex o x : Expr}
theorem e_filled {f : Fm} {g : Fil} {n k : Nat} {pl : Sem Bool} (F : FilledD X.prog X.w X.K X.mg X.base n k) (hr : Room k X.A) (hp : FilPre (f, g) ∧ f.nest ≤ n) (ho : EE X M e cs o f.o cs1) (ha : EE X M e cs1 a (g.dict Fm.o) cs2)
    (hst : starEach [a] X.env = (false, eval a X.env) :: starEach [] X.env := by rfl)
    (ht : eval (.Call (.Attribute o "filled" apos) [a] [] pos) X.env = (do
      let ov ← eval o X.env
      standAt apos.atName
      let (f, first) ← holding [ov] (getMethod ov "filled" pl)
      callWith pos f first (backTo pos (starEach [a] X.env)) (backToKw pos (keywordEach [] X.env))) := by rfl) : EE X M e cs (.Call (.Attribute o "filled" apos) [a] [] pos) (sub g.f f).o cs2 :=
  EE.eq (e_meth F hr (ho.eq f.o_eq) (a_cons ha a_nil hst) (by decide +kernel) (f, g) hp (by show [D.obj "Formula" fnames f.fs, g.dict Fm.o] = [f.o, g.dict Fm.o]; rw [f.o_eq]) hst rfl ht) rfl
theorem e_filledK {f : Fm} {g : Fil} {n k : Nat} {kp : Pos} {pl : Sem Bool} (F : FilledK X.prog X.w X.K X.mg X.base n k) (hr : Room k X.A) (hp : FilPre (f, g)) (hn : f.nest ≤ n) (ho : EE X M e cs o f.o cs1) (ha : EE X M e cs1 a (g.dict Fm.o) cs2)
    (hall : (backToKw pos (keywordEach [⟨some "filling", a, kp⟩] X.env)).all (·.1.isSome) = true := by rfl) (hks : (backToKw pos (keywordEach [⟨some "filling", a, kp⟩] X.env)).filterMap (·.1) = [Str.ofString "filling"] := by rfl)
    (hpl : ((backTo pos (starEach [] X.env)).any (·.1) || (backToKw pos (keywordEach [⟨some "filling", a, kp⟩] X.env)).any (·.1.isNone)) = false := by rfl)
    (ht : eval (.Call (.Attribute o "filled" apos) [] [⟨some "filling", a, kp⟩] pos) X.env = (do
      let ov ← eval o X.env
      standAt apos.atName
      let (f, first) ← holding [ov] (getMethod ov "filled" pl)
      callWith pos f first (backTo pos (starEach [] X.env)) (backToKw pos (keywordEach [⟨some "filling", a, kp⟩] X.env))) := by rfl) : EE X M e cs (.Call (.Attribute o "filled" apos) [] [⟨some "filling", a, kp⟩] pos) (sub g.f f).o cs2 := by
  have F' := F (f, g) hp hn
  dsimp only at F'
  rw [f.o_eq] at F'
  exact e_meK (cn := "Formula") (ns := fnames) (gs := f.fs) F' hr (ho.eq f.o_eq) ha (by decide +kernel) hall hks hpl ht
theorem x_filled {f : Fm} {i : BadI} {k : Nat} {pl : Sem Bool} (F : FilledX X.prog X.w X.K X.mg X.base k) (hr : Room k X.A) (hp : i.Pre) (ho : EE X M e cs o f.o cs1) (ha : EE X M e cs1 a i.dict cs2)
    (hst : starEach [a] X.env = (false, eval a X.env) :: starEach [] X.env := by rfl)
    (ht : eval (.Call (.Attribute o "filled" apos) [a] [] pos) X.env = (do
      let ov ← eval o X.env
      standAt apos.atName
      let (f, first) ← holding [ov] (getMethod ov "filled" pl)
      callWith pos f first (backTo pos (starEach [a] X.env)) (backToKw pos (keywordEach [] X.env))) := by rfl) : EX X M e cs (.Call (.Attribute o "filled" apos) [a] [] pos) (badFl i.m) cs2 := by
  have F' := F f i hp
  rw [f.o_eq] at F'
  exact x_me (cn := "Formula") (ns := fnames) (gs := f.fs) F' hr (ho.eq f.o_eq) (a_cons ha a_nil hst) sw0 (by decide +kernel) hst rfl ht
end
end Od

set_option Elab.async false
set_option linter.all false
set_option maxRecDepth 100000
set_option maxHeartbeats 4000000
namespace Od
open PySem L2 TL PySem.Spec
local macro_rules
  | `(tactic| walk_at "bd") => `(tactic| first | exact bd_add | exact bd_sub | exact bd_mulR (by decide) | exact bd_mulL (by decide) | exact bd_mod (by decide) | exact bd_div (by decide))
local macro_rules
  | `(tactic| walk_at "cd") => `(tactic| first | exact cd_lt | exact cd_le | exact cd_gt | exact cd_ge | exact cd_eqI | exact cd_eqS)
local macro_rules
  | `(tactic| walk_at "le") => `(tactic| repeat (first | exact LeD.nil | apply LeD.drop | apply LeD.same))
def leafF (b : Bag) (cs : List Nat) : Fm × Bag :=
  if (draw b 8).1 < 2 then (.cst (decide ((draw b 8).1 = 0)), (draw b 8).2)
  else (.le (cs.getD (draw (draw b 8).2 cs.length).1.toNat 0), (draw (draw b 8).2 cs.length).2)
def opF (w : Int) : Op := if w < 5 then .an else if w < 7 then .orr else .im
def formF : Nat → Bag → List Nat → Fm × Bag
  | 0, b, cs => leafF (draw b 9).2 cs
  | n + 1, b, cs =>
    if (draw b 9).1 < 2 then leafF (draw b 9).2 cs
    else if (draw b 9).1 = 2 then (.bin .im (formF n (draw b 9).2 cs).1 (.cst false), (formF n (draw b 9).2 cs).2)
    else (.bin (opF (draw b 9).1) (formF n (draw b 9).2 cs).1 (formF n (formF n (draw b 9).2 cs).2 cs).1, (formF n (formF n (draw b 9).2 cs).2 cs).2)
structure CsOk (cs : List Nat) : Prop where
  pos : 0 < cs.length
  le : cs.length ≤ 1000
theorem leafF_ok {b : Bag} (h : b.Ok) (cs : List Nat) : (leafF b cs).2.Ok := by
  unfold leafF
  split
  · exact draw_ok h _
  · exact draw_ok (draw_ok h _) _
theorem formF_ok : ∀ (n : Nat) {b : Bag} (h : b.Ok) (cs : List Nat), (formF n b cs).2.Ok
  | 0, b, h, cs => leafF_ok (draw_ok h _) cs
  | n + 1, b, h, cs => by
    unfold formF
    split
    · exact leafF_ok (draw_ok h _) cs
    · split
      · exact formF_ok n (draw_ok h _) cs
      · exact formF_ok n (formF_ok n (draw_ok h _) cs) cs
theorem leafF_fm {b : Bag} {cs : List Nat} (hc : CsOk cs) (ha : ∀ c ∈ cs, c ∈ alpha) : (leafF b cs).1.ok ∧ (leafF b cs).1.sz = 1 ∧ (leafF b cs).1.nest = 1 := by
  unfold leafF
  split
  · exact ⟨trivial, rfl, rfl⟩
  · refine ⟨ha _ ?_, rfl, rfl⟩
    have := (draw_ix (b := (draw b 8).2) (n := cs.length) hc.pos).2
    simp [List.getD, this]
theorem formF_fm {cs : List Nat} (hc : CsOk cs) (ha : ∀ c ∈ cs, c ∈ alpha) : ∀ (n : Nat) (b : Bag), (formF n b cs).1.ok ∧ (formF n b cs).1.sz < 2 ^ (n + 1) ∧ (formF n b cs).1.nest ≤ n + 1
  | 0, b => by
    obtain ⟨h1, h2, h3⟩ := leafF_fm (b := (draw b 9).2) hc ha
    refine ⟨h1, ?_, ?_⟩
    · show (leafF _ _).1.sz < _
      rw [h2]; decide
    · show (leafF _ _).1.nest ≤ _
      rw [h3]; decide
  | n + 1, b => by
    obtain ⟨h1, h2, h3⟩ := leafF_fm (b := (draw b 9).2) hc ha
    obtain ⟨g1, g2, g3⟩ := formF_fm hc ha n (draw b 9).2
    obtain ⟨k1, k2, k3⟩ := formF_fm hc ha n (formF n (draw b 9).2 cs).2
    have hp : 2 ^ (n + 1 + 1) = 2 * 2 ^ (n + 1) := by rw [Nat.pow_succ]; omega
    have hq : 1 ≤ 2 ^ (n + 1) := Nat.one_le_two_pow
    have hr : 2 ≤ 2 ^ (n + 1) := by rw [Nat.pow_succ]; have := Nat.one_le_two_pow (n := n); omega
    unfold formF
    split
    · exact ⟨h1, by rw [h2]; omega, by rw [h3]; omega⟩
    · split
      · refine ⟨⟨g1, trivial⟩, ?_, ?_⟩
        · simp only [Fm.sz]; omega
        · simp only [Fm.nest]; omega
      · refine ⟨⟨g1, k1⟩, ?_, ?_⟩
        · simp only [Fm.sz]; omega
        · simp only [Fm.nest]; omega
structure LfI where
  ad : Addr
  b : Bag
  cs : List Nat
structure LfI.Pre (i : LfI) : Prop where
  ok : i.b.Ok
  cs : CsOk i.cs
section
variable (P : Program) (w : World) (K : PySem.W.Frag) (mg : Str → Option Value) (base : Heap)
abbrev LeafD (k : Nat) : Prop := Dfn P w K mg base "_law_leaf" k (fnSp K mg LfI.Pre (fun i => [.ref i.ad, .str (strOf i.cs)]) (fun i => [(i.ad, i.b.c)]) (fun i => (leafF i.b i.cs).1.d) (fun i => [(i.ad, (leafF i.b i.cs).2.c)]))
abbrev FormD (n k : Nat) : Prop := Dfn P w K mg base "_law_form" k (fnSp K mg LfI.Pre (fun i => [.ref i.ad, .str (strOf i.cs), .int (n : Int)]) (fun i => [(i.ad, i.b.c)]) (fun i => (formF n i.b i.cs).1.d) (fun i => [(i.ad, (formF n i.b i.cs).2.c)]))
variable {P w K mg base}
theorem scLeaf : FnScope ["_law_bag", "_law_signs_here", "_law_way"] ["_law_bag", "_law_signs_here"] (defScope sLeaf) := ⟨rfl, rfl, rfl, by decide +kernel, rfl, by decide +kernel, by decide +kernel⟩
theorem scForm : FnScope ["_law_bag", "_law_signs_here", "_law_deep", "_law_way", "_law_one_here", "_law_word"] ["_law_bag", "_law_signs_here", "_law_deep"] (defScope sForm) := ⟨rfl, rfl, rfl, by decide +kernel, rfl, by decide +kernel, by decide +kernel⟩
theorem ok_leaf {f : Addr} {fd : FuncData} (F : Fun K "_law_leaf" "_law_leaf" sLeaf f fd) (hm : mg "_law_leaf" = some (.ref f)) (hb : Binds K fd ["_law_bag", "_law_signs_here"] []) (B : Blt mg) (D0 : DrawD P w K mg base 3) (D1 : OneD P w K mg base 4) : LeafD P w K mg base 5 := by
  refine dfn_of F hm scLeaf hb (fun i => rfl) fun cdv A outer s H0 E i M Q hp hr kq => ?_
  obtain ⟨ad, b, cs⟩ := i
  obtain ⟨ok, hc⟩ := hp
  dsimp only at ok hc kq
  refine at_set 2 (e_draw D0 (hr.mono (by decide)) (e_name 0 rfl) e_int .here ok (by decide)) ?_ scLeaf.nd
  refine at_if (t_cmp (e_name 2 rfl) e_int (by walk_at "cd")) (fun g => ?_) fun g => at_nil ?_
  · simp only [decide_eq_true_eq] at g
    have e : leafF b cs = (.cst (decide ((draw b 8).1 = 0)), (draw b 8).2) := by unfold leafF; rw [if_pos g]
    rw [e] at kq
    refine at_end (e_ite (t_cmp (e_name 2 rfl) e_int (by walk_at "cd")) (fun _ => e_tup (a_cons e_str a_nil)) (fun _ => e_tup (a_cons e_str a_nil))) ?_ (.head _) kq
    by_cases h : (draw b 8).1 = 0 <;> simp [h, Fm.d, cw]
  · simp only [decide_eq_false_iff_not] at g
    have e : leafF b cs = (.le (cs.getD (draw (draw b 8).2 cs.length).1.toNat 0), (draw (draw b 8).2 cs.length).2) := by unfold leafF; rw [if_neg g]
    rw [e] at kq
    exact at_end (e_tup (a_cons e_str (a_cons (e_oneL D1 hr (e_name 0 rfl) (e_name 1 rfl) .here (draw_ok ok _) ⟨hc.pos, Nat.le_trans hc.le (by decide)⟩) a_nil))) rfl (.head _) kq
theorem word_at (w : Int) (h1 : 3 ≤ w) (h2 : w < 9) : ixN 6 (w - 3) = some (w - 3).toNat ∧ ([D.str "and", .str "and", .str "or", .str "or", .str "if", .str "if"] : List D)[(w - 3).toNat]? = some (.str (opF w).w) := by
  refine ⟨ixN_int (by omega) (by omega), ?_⟩
  have : w = 3 ∨ w = 4 ∨ w = 5 ∨ w = 6 ∨ w = 7 ∨ w = 8 := by omega
  rcases this with rfl | rfl | rfl | rfl | rfl | rfl <;> rfl
theorem e_leaf {X : Cx} {M : Addr → Prop} {e : DE} {cs cs2 : Cs} {pos p : Pos} {a x : Expr} {ad : Addr} {b : Bag} {l : List Nat} {k : Nat} (F : LeafD X.prog X.w X.K X.mg X.base k) (hr : Room k X.A) (ha : EE X M e cs a (.ref ad) cs) (hx : EE X M e cs x (.str (strOf l)) cs) (hu : Upd1 ad b.c (leafF b l).2.c cs cs2) (ok : b.Ok) (hp : CsOk l) (hg : Gl X "_law_leaf" := by rfl)
    (he : starEach [a, x] X.env = (false, eval a X.env) :: starEach [x] X.env := by rfl) (he2 : starEach [x] X.env = (false, eval x X.env) :: starEach [] X.env := by rfl) (hpl : (backTo pos (starEach [x] X.env)).any (·.1) = false := by rfl) : EE X M e cs (.Call (.Name "_law_leaf" p) [a, x] [] pos) (leafF b l).1.d cs2 :=
  e_call1 F hr (a_cons ha (a_cons hx a_nil he2) he) ⟨ad, b, l⟩ ⟨ok, hp⟩ rfl rfl rfl hu hg (by decide) he hpl
theorem e_form {X : Cx} {M : Addr → Prop} {e : DE} {cs cs1 cs2 cs4 : Cs} {pos p : Pos} {a x y : Expr} {ad : Addr} {b : Bag} {l : List Nat} {n k : Nat} {i : Int} (F : FormD X.prog X.w X.K X.mg X.base n k) (hr : Room k X.A) (ha : EE X M e cs a (.ref ad) cs) (hx : EE X M e cs x (.str (strOf l)) cs1) (hy : EE X M e cs1 y (.int i) cs2) (hi : i = n) (hu : Upd1 ad b.c (formF n b l).2.c cs2 cs4) (ok : b.Ok) (hp : CsOk l) (hg : Gl X "_law_form" := by rfl)
    (he : starEach [a, x, y] X.env = (false, eval a X.env) :: starEach [x, y] X.env := by rfl) (he2 : starEach [x, y] X.env = (false, eval x X.env) :: starEach [y] X.env := by rfl) (he3 : starEach [y] X.env = (false, eval y X.env) :: starEach [] X.env := by rfl) (hpl : (backTo pos (starEach [x, y] X.env)).any (·.1) = false := by rfl) : EE X M e cs (.Call (.Name "_law_form" p) [a, x, y] [] pos) (formF n b l).1.d cs4 :=
  e_call1 F hr (a_cons ha (a_cons hx (a_cons hy a_nil he3) he2) he) ⟨ad, b, l⟩ ⟨ok, hp⟩ (by rw [hi]) rfl rfl hu hg (by decide) he hpl
theorem ok_form {f : Addr} {fd : FuncData} (F : Fun K "_law_form" "_law_form" sForm f fd) (hm : mg "_law_form" = some (.ref f)) (hb : Binds K fd ["_law_bag", "_law_signs_here", "_law_deep"] []) (B : Blt mg) (D0 : DrawD P w K mg base 3) (D1 : LeafD P w K mg base 5) : ∀ n : Nat, FormD P w K mg base n (6 + n) := by
  intro n
  induction n with
  | zero =>
    refine dfn_of F hm scForm hb (fun i => rfl) fun cdv A outer s H0 E i M Q hp hr kq => ?_
    obtain ⟨ad, b, cs⟩ := i
    obtain ⟨ok, hc⟩ := hp
    dsimp only at ok hc kq
    refine at_set 3 (e_draw D0 (hr.mono (by decide)) (e_name 0 rfl) e_int .here ok (by decide)) ?_ scForm.nd
    refine at_if (t_ew (t_or (t_cmp (e_name 2 rfl) e_int (by walk_at "cd")) fun _ => t_or1 (t_cmp (e_name 3 rfl) e_int (by walk_at "cd")))) (fun g => ?_) fun g => ?_
    · exact at_end (e_leaf D1 hr (e_name 0 rfl) (e_name 1 rfl) .here (draw_ok ok _) hc) rfl (.head _) kq
    · simp at g
  | succ n ih =>
    refine dfn_of F hm scForm hb (fun i => rfl) fun cdv A outer s H0 E i M Q hp hr kq => ?_
    obtain ⟨ad, b, cs⟩ := i
    obtain ⟨ok, hc⟩ := hp
    dsimp only at ok hc kq
    have ok1 := draw_ok ok 9
    have ok2 := formF_ok n ok1 cs
    obtain ⟨l1, l2⟩ := draw_lo (b := b) (s := 9) (by decide)
    refine at_set 3 (e_draw D0 (hr.mono (by show _ ≤ 6 + n; omega)) (e_name 0 rfl) e_int .here ok (by decide)) ?_ scForm.nd
    refine at_if (t_ew (t_or (t_cmp (e_name 2 rfl) e_int (by walk_at "cd")) fun _ => t_or1 (t_cmp (e_name 3 rfl) e_int (by walk_at "cd")))) (fun g => ?_) fun g => at_nil ?_
    · have g' : (draw b 9).1 < 2 := by
        simp only [Bool.or_eq_true, decide_eq_true_eq] at g
        omega
      have e : formF (n + 1) b cs = leafF (draw b 9).2 cs := by
        conv => lhs; unfold formF
        exact if_pos g'
      rw [e] at kq
      exact at_end (e_leaf D1 (hr.mono (by show _ ≤ 6 + n; omega)) (e_name 0 rfl) (e_name 1 rfl) .here (draw_ok ok _) hc) rfl (.head _) kq
    · have g' : ¬ (draw b 9).1 < 2 := by
        simp only [Bool.or_eq_false_iff, decide_eq_false_iff_not] at g
        exact g.2
      refine at_set 4 (e_form ih (hr.mono (by show _ ≤ 6 + n; omega)) (e_name 0 rfl) (e_name 1 rfl) (e_bin (e_name 2 rfl) e_int (by walk_at "bd")) (by first | omega | (dsimp only; omega)) .here ok1 hc) ?_ scForm.nd
      refine at_if (t_cmp (e_name 3 rfl) e_int (by walk_at "cd")) (fun q => ?_) fun q => at_nil ?_
      · simp only [decide_eq_true_eq] at q
        have e : formF (n + 1) b cs = (.bin .im (formF n (draw b 9).2 cs).1 (.cst false), (formF n (draw b 9).2 cs).2) := by
          conv => lhs; unfold formF
          exact (if_neg g').trans (if_pos q)
        rw [e] at kq
        exact at_end (e_tup (a_cons e_str (a_cons (e_name 4 rfl) (a_cons (e_tup (a_cons e_str a_nil)) a_nil)))) rfl (.head _) kq
      · simp only [decide_eq_false_iff_not] at q
        have e : formF (n + 1) b cs = (.bin (opF (draw b 9).1) (formF n (draw b 9).2 cs).1 (formF n (formF n (draw b 9).2 cs).2 cs).1, (formF n (formF n (draw b 9).2 cs).2 cs).2) := by
          conv => lhs; unfold formF
          exact (if_neg g').trans (if_neg q)
        rw [e] at kq
        obtain ⟨w1, w2⟩ := word_at (draw b 9).1 (by omega) l2
        refine at_set 5 (e_ix (e_lst (a_cons e_str (a_cons e_str (a_cons e_str (a_cons e_str (a_cons e_str (a_cons e_str a_nil))))))) (e_bin (e_name 3 rfl) e_int (by walk_at "bd")) (xd_lst w1 w2)) ?_ scForm.nd
        exact at_end (e_tup (a_cons (e_name 5 rfl) (a_cons (e_name 4 rfl) (a_cons (e_form ih (hr.mono (by show _ ≤ 6 + n; omega)) (e_name 0 rfl) (e_name 1 rfl) (e_bin (e_name 2 rfl) e_int (by walk_at "bd")) (by first | omega | (dsimp only; omega)) .here ok2 hc) a_nil)))) rfl (.head _) kq
end
end Od

set_option Elab.async false
set_option linter.all false
set_option maxRecDepth 100000
set_option maxHeartbeats 4000000
namespace Od
open PySem L2 TL PySem.Spec
abbrev sInner : Stmt := top 35
local macro_rules
  | `(tactic| walk_at "bd") => `(tactic| first | exact bd_add | exact bd_sub | exact bd_mulR (by decide) | exact bd_mulL (by decide) | exact bd_mod (by decide) | exact bd_div (by decide))
local macro_rules
  | `(tactic| walk_at "cd") => `(tactic| first | exact cd_lt | exact cd_le | exact cd_gt | exact cd_ge | exact cd_eqI | exact cd_eqS | exact cd_eqB)
local macro_rules
  | `(tactic| walk_at "le") => `(tactic| repeat (first | exact LeD.nil | apply LeD.drop | apply LeD.same))
section
variable {P : Program} {w : World} {K : PySem.W.Frag} {mg : Str → Option Value} {base : Heap}
abbrev InnerD (P : Program) (w : World) (K : PySem.W.Frag) (mg : Str → Option Value) (base : Heap) (k : Nat) : Prop := Dfn P w K mg base "_law_inner" k (puSp K mg (fun _ : Fm => True) (fun f => [f.d]) (fun f => .lst (f.inner.map Fm.d)))
theorem scInner : FnScope ["_law_mine"] ["_law_mine"] (defScope sInner) := ⟨rfl, rfl, rfl, by decide +kernel, rfl, by decide +kernel, by decide +kernel⟩
theorem ok_inner {f : Addr} {fd : FuncData} (F : Fun K "_law_inner" "_law_inner" sInner f fd) (hm : mg "_law_inner" = some (.ref f)) (hb : Binds K fd ["_law_mine"] []) (B : Blt mg) : InnerD P w K mg base 2 := by
  refine dfn_of F hm scInner hb (fun i => rfl) fun cdv A outer s H0 E g M Q hp hr kq => ?_
  cases g with
  | cst b =>
    exact at_end (e_if (t_cmp (e_ix (e_name 0 rfl) e_int (xd_tup (j := 0) rfl rfl)) e_str (by walk_at "cd")) rfl (fun h => by rw [cw_ne] at h; cases h) (fun _ => e_bty kd_listT (a_cons (e_slice (e_name 0 rfl) (o_some e_int) o_none sd_tup) a_nil) B.list)) rfl (.head _) kq
  | le c =>
    exact at_end (e_if (t_cmp (e_ix (e_name 0 rfl) e_int (xd_tup (j := 0) rfl rfl)) e_str (by walk_at "cd")) rfl (fun h => e_lst a_nil) (fun h => by simp at h)) rfl (.head _) kq
  | bin o a b =>
    exact at_end (e_if (t_cmp (e_ix (e_name 0 rfl) e_int (xd_tup (j := 0) rfl rfl)) e_str (by walk_at "cd")) rfl (fun h => by rw [Op.w_ne] at h; cases h) (fun _ => e_bty kd_listT (a_cons (e_slice (e_name 0 rfl) (o_some e_int) o_none sd_tup) a_nil) B.list)) rfl (.head _) kq
end
end Od

set_option Elab.async false
set_option linter.all false
set_option maxRecDepth 100000
set_option maxHeartbeats 4000000
/-! La8: _law_mixed -/
namespace Od
open PySem L2 TL PySem.Spec
abbrev sMixed : Stmt := top 31
local macro_rules
  | `(tactic| walk_at "bd") => `(tactic| first | exact bd_add | exact bd_sub | exact bd_mulR (by decide) | exact bd_mulL (by decide) | exact bd_mod (by decide) | exact bd_div (by decide))
local macro_rules
  | `(tactic| walk_at "le") => `(tactic| repeat (first | exact LeD.nil | apply LeD.drop | apply LeD.same))
/-- put in at a drawn place -/
def insF {α : Type} (acc : List α) (b : Bag) (t : α) : List α × Bag :=
  (acc.take (draw b ((acc.length : Nat) + 1)).1.toNat ++ [t] ++ acc.drop (draw b ((acc.length : Nat) + 1)).1.toNat, (draw b ((acc.length : Nat) + 1)).2)
def mixF {α : Type} : List α → Bag → List α → List α × Bag
  | acc, b, [] => (acc, b)
  | acc, b, t :: ts => mixF (insF acc b t).1 (insF acc b t).2 ts
theorem mixF_snoc {α : Type} : ∀ (ts : List α) (acc : List α) (b : Bag) (t : α), mixF acc b (ts ++ [t]) = insF (mixF acc b ts).1 (mixF acc b ts).2 t
  | [], _, _, _ => rfl
  | _ :: ts, acc, b, t => mixF_snoc ts _ _ t
theorem insF_len {α : Type} {acc : List α} {b : Bag} {t : α} : (insF acc b t).1.length = acc.length + 1 := by
  simp [insF]; omega
theorem insF_ok {α : Type} {acc : List α} {b : Bag} {t : α} (h : b.Ok) : (insF acc b t).2.Ok := draw_ok h _
theorem mixF_ok {α : Type} : ∀ (ts : List α) {acc : List α} {b : Bag} (h : b.Ok), (mixF acc b ts).2.Ok
  | [], _, _, h => h
  | _ :: ts, _, _, h => mixF_ok ts (insF_ok h)
theorem mixF_len {α : Type} : ∀ (ts : List α) (acc : List α) (b : Bag), (mixF acc b ts).1.length = acc.length + ts.length
  | [], _, _ => by simp [mixF]
  | _ :: ts, acc, b => by
    show (mixF _ _ ts).1.length = _
    rw [mixF_len ts, insF_len]; simp; omega
theorem mixF_perm {α : Type} : ∀ (ts : List α) (acc : List α) (b : Bag), (mixF acc b ts).1.Perm (acc ++ ts)
  | [], acc, _ => by simp [mixF]
  | t :: ts, acc, b => by
    refine (mixF_perm ts _ _).trans ?_
    have h : (insF acc b t).1.Perm (acc ++ [t]) := by
      unfold insF
      simp only
      generalize (draw b ((acc.length : Nat) + 1)).1.toNat = i
      have e : acc ++ [t] = (acc.take i ++ acc.drop i) ++ [t] := by rw [List.take_append_drop]
      rw [e, List.append_assoc, List.append_assoc]
      exact List.Perm.append_left _ List.perm_append_comm
    have := h.append_right ts
    simpa using this
structure MxI where
  ad : Addr
  b : Bag
  ts : List D
structure MxI.Pre (i : MxI) : Prop where
  ok : i.b.Ok
  le : i.ts.length ≤ 1000
section
variable {P : Program} {w : World} {K : PySem.W.Frag} {mg : Str → Option Value} {base : Heap}
abbrev MixedD (P : Program) (w : World) (K : PySem.W.Frag) (mg : Str → Option Value) (base : Heap) (k : Nat) : Prop := Dfn P w K mg base "_law_mixed" k (fnSp K mg MxI.Pre (fun i => [.ref i.ad, .lst i.ts]) (fun i => [(i.ad, i.b.c)]) (fun i => .lst (mixF [] i.b i.ts).1) (fun i => [(i.ad, (mixF [] i.b i.ts).2.c)]))
theorem scMixed : FnScope ["_law_bag", "_law_things", "_law_found", "_law_thing"] ["_law_bag", "_law_things"] (defScope sMixed) := ⟨rfl, rfl, rfl, by decide +kernel, rfl, by decide +kernel, by decide +kernel⟩
theorem ok_mixed {f : Addr} {fd : FuncData} (F : Fun K "_law_mixed" "_law_mixed" sMixed f fd) (hm : mg "_law_mixed" = some (.ref f)) (hb : Binds K fd ["_law_bag", "_law_things"] []) (B : Blt mg) (D0 : DrawD P w K mg base 3) : MixedD P w K mg base 4 := by
  refine dfn_of F hm scMixed hb (fun i => rfl) fun cdv A outer s H0 E i M Q hp hr kq => ?_
  obtain ⟨ad, b, ts⟩ := i
  obtain ⟨ok, le⟩ := hp
  dsimp only at ok le kq
  refine at_setL 2 a_nil (by simp) (fun q nq => ?_) scMixed.nd
  refine at_for (α := fun _ => Unit) (ds := ts) (fun _ _ => True) (fun i _ => [some (.ref ad), some (.lst ts), some (.ref q), none]) (fun i _ => [(q, .lst (mixF [] b (ts.take i)).1), (ad, (mixF [] b (ts.take i)).2.c)])
    (ei_list (e_name 1 rfl)) (ltg_name 3 scMixed.nd) (fun _ _ => trivial) () trivial rfl rfl (fun _ _ _ => rfl) (fun i d u H1 hd _ => ?_) fun u _ => ?_
  · have hi : i < ts.length := (List.getElem?_eq_some_iff.mp hd).1
    have e : ts.take (i + 1) = ts.take i ++ [d] := by rw [List.take_add_one, hd]; rfl
    have o2 : (mixF [] b (ts.take i)).2.Ok := mixF_ok _ ok
    have hlen : (mixF [] b (ts.take i)).1.length = i := by rw [mixF_len]; simp; omega
    obtain ⟨p1, p2⟩ := draw_lo (b := (mixF [] b (ts.take i)).2) (s := ((mixF [] b (ts.take i)).1.length : Nat) + 1) (by omega)
    refine at_expr (d := .non) (cs1 := [(q, .lst (mixF [] b (ts.take (i + 1))).1), (ad, (mixF [] b (ts.take (i + 1))).2.c)]) (e_ins (i := (draw (mixF [] b (ts.take i)).2 (((mixF [] b (ts.take i)).1.length : Nat) + 1)).1) (ds := (mixF [] b (ts.take i)).1) (d := d) (cs2 := [(q, .lst (mixF [] b (ts.take i)).1), (ad, (draw (mixF [] b (ts.take i)).2 (((mixF [] b (ts.take i)).1.length : Nat) + 1)).2.c)]) (e_name 2 rfl) ⟨_, .head _⟩
      (e_draw D0 (hr.mono (by decide)) (e_name 0 rfl) (e_bin (e_lenc (e_name 2 rfl) (.head _) B.len) e_int (by walk_at "bd")) (.there .here) o2 ⟨by omega, by
        have := log2_le (n := (mixF [] b (ts.take i)).1.length + 1) (by omega)
        simpa using this⟩) (e_name 3 rfl) (by
        rw [e, mixF_snoc]; exact .here) (by omega) ⟨p1, by omega⟩) ?_
    exact at_nil (at_go (at_inv (e := [some (.ref ad), some (.lst ts), some (.ref q), none]) () trivial rfl rfl) (by walk_at "le") rfl)
  · rw [List.take_length]
    exact at_doneC (M0 := M) (c2 := [(ad, (mixF [] b ts).2.c)]) (e_name 2 rfl) nq (.head _) kq
end
end Od

set_option Elab.async false
set_option linter.all false
set_option maxRecDepth 100000
set_option maxHeartbeats 4000000
namespace Od
open PySem L2 TL PySem.Spec
abbrev sMade : Stmt := top 37
local macro_rules
  | `(tactic| walk_at "bd") => `(tactic| first | exact bd_add | exact bd_sub | exact bd_mulR (by decide) | exact bd_mulL (by decide) | exact bd_mod (by decide) | exact bd_div (by decide))
local macro_rules
  | `(tactic| walk_at "cd") => `(tactic| first | exact cd_lt | exact cd_le | exact cd_gt | exact cd_ge | exact cd_eqI | exact cd_eqS)
section
variable {P : Program} {w : World} {K : PySem.W.Frag} {mg : Str → Option Value} {base : Heap}
/-! ### the law's own -/
abbrev MadeD (P : Program) (w : World) (K : PySem.W.Frag) (mg : Str → Option Value) (base : Heap) (n k : Nat) : Prop := Dfn P w K mg base "_law_made" k (puSp K mg (fun f : Fm => f.ok ∧ f.sz ≤ 10000 ∧ f.nest ≤ n) (fun f => [f.d]) (fun f => f.o))
theorem scMade : FnScope ["_law_mine"] ["_law_mine"] (defScope sMade) := ⟨rfl, rfl, rfl, by decide +kernel, rfl, by decide +kernel, by decide +kernel⟩
theorem ok_made {f : Addr} {fd : FuncData} (F : Fun K "_law_made" "_law_made" sMade f fd) (hm : mg "_law_made" = some (.ref f)) (hb : Binds K fd ["_law_mine"] []) (MK : MkF P w K mg base 5) : ∀ n, MadeD P w K mg base n (7 + n) := by
  intro n
  induction n with
  | zero => exact dfn_of F hm scMade hb (fun i => rfl) fun cdv A outer s H0 E g M Q hp hr kq => absurd hp.2.2 (by have := nest_pos g; omega)
  | succ n ih =>
    refine dfn_of F hm scMade hb (fun i => rfl) fun cdv A outer s H0 E g M Q hp hr kq => ?_
    obtain ⟨hok, hsz, hn⟩ := hp
    have hr6 : Room 6 _ := hr.mono (show 6 ≤ 7 + n by omega)
    cases g with
    | le c =>
      refine at_if (t_cmp (e_ix (e_name 0 rfl) e_int (xd_tup (j := 0) rfl rfl)) e_str (by walk_at "cd")) (fun _ => ?_) fun h => by simp at h
      exact at_end (e_mk MK hr6 (a_cons e_str (a_cons (e_ix (e_name 0 rfl) e_int (xd_tup (j := 1) rfl rfl)) a_nil)) (.le c) ⟨hok, hsz⟩ rfl) rfl (.head _) kq
    | cst b =>
      refine at_if (t_cmp (e_ix (e_name 0 rfl) e_int (xd_tup (j := 0) rfl rfl)) e_str (by walk_at "cd")) (fun h => by rw [cw_ne] at h; cases h) fun _ => at_nil ?_
      refine at_if (t_cmp (e_ix (e_name 0 rfl) e_int (xd_tup (j := 0) rfl rfl)) (e_tup (a_cons e_str (a_cons e_str a_nil))) cd_inT2) (fun _ => ?_) fun h => by rw [cw_TF] at h; cases h
      exact at_end (e_mk MK hr6 (a_cons (e_ix (e_name 0 rfl) e_int (xd_tup (j := 0) rfl rfl)) a_nil) (.cst b) ⟨hok, hsz⟩ rfl) rfl (.head _) kq
    | bin o a b =>
      have hs : (Fm.bin o a b).sz = 1 + (a.sz + b.sz) := rfl
      have ht : (Fm.bin o a b).nest = 1 + max a.nest b.nest := rfl
      refine at_if (t_cmp (e_ix (e_name 0 rfl) e_int (xd_tup (j := 0) rfl rfl)) e_str (by walk_at "cd")) (fun h => by rw [Op.w_ne] at h; cases h) fun _ => at_nil ?_
      refine at_if (t_cmp (e_ix (e_name 0 rfl) e_int (xd_tup (j := 0) rfl rfl)) (e_tup (a_cons e_str (a_cons e_str a_nil))) cd_inT2) (fun h => by rw [Op.noTF] at h; cases h) fun _ => at_nil ?_
      exact at_end (e_mk MK hr6 (a_cons (e_ix (e_name 0 rfl) e_int (xd_tup (j := 0) rfl rfl)) (a_cons (e_call ih hr (a_cons (e_ix (e_name 0 rfl) e_int (xd_tup (j := 1) rfl rfl)) a_nil) a ⟨hok.1, by omega, by omega⟩ rfl) (a_cons (e_call ih hr (a_cons (e_ix (e_name 0 rfl) e_int (xd_tup (j := 2) rfl rfl)) a_nil) b ⟨hok.2, by omega, by omega⟩ rfl) a_nil))) (.bin o a b) ⟨hok, hsz⟩ rfl) rfl (.head _) kq
end
end Od

set_option Elab.async false
set_option linter.all false
set_option maxRecDepth 100000
set_option maxHeartbeats 4000000
/-! OdSet: sorted(set(texts)) -/
namespace Od
open PySem PySem.Spec PyProof.Rows L2 PySem.Froz
/-- the set at a holds the texts l, each once; it can be walked -/
def TR (P : Program) (w : World) (h : Heap) (a : Addr) (l : List Str) : Prop :=
  ∃ D : SD, h.get? a = some (sObj "set" D) ∧ TxOk P w D l ∧ l.Nodup ∧ Ris D.2.2.place.toList ∧ (w.params.followText "set-order" = true ∨ D.2.2.led = true)
theorem TR.at {P : Program} {w : World} {h h' : Heap} {a : Addr} {l : List Str} (R : TR P w h a l) (k : ∀ o, h.get? a = some o → h'.get? a = some o) : TR P w h' a l := by
  obtain ⟨D, ho, r⟩ := R
  exact ⟨D, k _ ho, r⟩
theorem tail_ris {ep : Nat} {es1 : Array (Int × Value)} {t2 : SetTable} {b : Bool} {c : Prop} (r : Ris t2.place.toList) (hl : c ∨ t2.led = true) : Ris (tailTx ep es1 t2 b).2.2.place.toList ∧ (c ∨ (tailTx ep es1 t2 b).2.2.led = true) := by
  unfold tailTx; split
  · exact ⟨relayAll_ris _ _ _, hl.imp id fun z => by rw [relayAll_led]; exact z⟩
  · exact ⟨r, hl⟩
theorem add_ris {D : SD} {h : Int} {v : Value} {c : Prop} (r : Ris D.2.2.place.toList) (hl : c ∨ D.2.2.led = true) : Ris (addTx h v D).2.2.place.toList ∧ (c ∨ (addTx h v D).2.2.led = true) := by
  have r1 := layNew_ris D.2.2 D.1 h v r; have l1 := layNew_led D.2.2 D.1 h v
  have l2 : c ∨ (layNew D.2.2 D.1 h v).2.1.led = true := hl.imp id fun z => by rw [l1]; exact z
  unfold addTx; refine tail_ris ?_ ?_
  · split <;> exact r1
  · split <;> exact l2
section
variable {P : Program} {w : World} {A : Around} {E : Value → Shared → Prop} {s : Shared}
/-- found.add(k), a text -/
theorem tr_add {a : Addr} {l : List Str} {k : Str} {u : Tok} {Q : Bool → Shared → Prop} (T : TR P w s.heap a l) (room : l.length + 1 < scanBound)
    (hQ : ∀ b h', Heap.SameBut a s.heap h' → TR P w h' a (if k ∈ l then l else k :: l) → Q b { s with heap := h' }) : wpAny (model P w) A (setAddHashed a (.str k u) (hashStr w k)) Q E s := by
  obtain ⟨D, ho, F, nd, r, hl⟩ := T
  by_cases hk : k ∈ l
  · rw [if_pos hk] at hQ
    obtain ⟨es, ep, t⟩ := D
    have hd : (sObj "set" (es, ep, t)).data = .set es ep t := rfl
    have hkey : (strKind P w).is k (.str k u) = true := is_str k u
    obtain ⟨e, he, q⟩ := (F.mem k).mp hk
    unfold setAddHashed setAddHashedIn; refine wpAny_holding (wpAny_bind (wpAny_setState_of ho hd F.fit ?_)); dsimp only
    rw [byScan_of rfl (by have := F.sz; show es.size < _; have : es.size = l.length := F.sz; omega) F.el]
    simp only [↓reduceIte]; unfold setAddByScan
    refine wpAny_bind (wpAny_bind (wpAny_rule (wpAny_bind (wpAny_setScan_of hkey ho hd F.fit F.el ?_))))
    cases hfi : List.findIdx? (fun e => (strKind P w).is k e.2) es.toList with
    | none => have c := List.findIdx?_eq_none_iff.mp hfi e he; rw [q] at c; cases c
    | some j => dsimp only; exact wpAny_pure (wpAny_pure (hQ false s.heap (Heap.SameBut.refl a s.heap) ⟨_, ho, F, nd, r, hl⟩))
  · rw [if_neg hk] at hQ
    refine add_x ho F hk room (hQ true _ ?_ ⟨_, get_upd _ ho rfl, add_ok u F, List.nodup_cons.mpr ⟨hk, nd⟩, (add_ris r hl).1, (add_ris r hl).2⟩)
    exact ⟨by first | exact Heap.size_update .. | simp, fun b hb => by first | exact Heap.get?_update_other _ _ hb | exact Heap.get?_update_other _ _ (Ne.symm hb)⟩
/-- the texts ahead of i, each once -/
def seen (ss : List Str) : Nat → List Str
  | 0 => []
  | i + 1 => if ss.getD i "" ∈ seen ss i then seen ss i else ss.getD i "" :: seen ss i
theorem seen_len (ss : List Str) : ∀ i, (seen ss i).length ≤ i
  | 0 => Nat.le_refl _
  | i + 1 => by have := seen_len ss i; unfold seen; split <;> simp <;> omega
theorem seen_mem (ss : List Str) : ∀ i, i ≤ ss.length → ∀ x, x ∈ seen ss i ↔ x ∈ ss.take i
  | 0, _, x => by simp [seen]
  | i + 1, h, x => by
    have ih := seen_mem ss i (by omega) x; have ih2 := seen_mem ss i (by omega) (ss.getD i "")
    have hi : i < ss.length := by omega
    have e : ss.take (i + 1) = ss.take i ++ [ss.getD i ""] := by rw [List.take_add_one]; simp [List.getD, hi]
    rw [e, List.mem_append, List.mem_singleton]; unfold seen; split
    · rename_i z; rw [ih]; exact ⟨.inl, fun q => q.elim id fun q => by rw [q]; exact ih2.mp z⟩
    · rw [List.mem_cons, ih]; exact Or.comm
theorem up_strs {I : Addr} {fp wr : List Addr} {G : Array GenState → Array GenState → Prop} {n : Nat} {Pv : Nat → Value → Prop} {St : Nat → Shared → Prop} {R : Result → Shared → Prop}
    (W : WalksS P w A.in1 I fp wr G n Pv St) (S : Addr) (hSf : S ∉ fp) (ss : List Str) (hb : n + 1 < scanBound) (hval : ∀ i v, Pv i v → ∃ t, v = .str (ss.getD i "") t) :
    ∀ (k i : Nat) (s : Shared), n - i = k → i ≤ n → St i s → TR P w s.heap S (seen ss i) → (∀ s', Moved (S :: wr) G s s' → TR P w s'.heap S (seen ss n) → R (.ok (.ret .none)) s') →
      codeAny (model P w) A (.builtin "set.update.loop" ⟨[.ref S, .ref I], []⟩) R s := by
  have hSw : S ∉ wr := fun h => hSf (W.sub _ h)
  have hsub : ∀ b ∈ wr, b ∈ S :: wr := fun b hb => List.mem_cons_of_mem _ hb
  intro k; induction k with
  | zero =>
    intro i s hk' hi hst hS hR
    obtain rfl : i = n := by omega
    refine codeAny_builtin F.entry_set_update_loop ?_; rw [Around.under_plainId F.plain_set_update_loop _]
    show wpAny _ A.in1 (pyNext (.ref I) >>= _) _ _ s; refine wpAny_bind (W.done s _ _ hst fun s' hm => ?_)
    show wpAny _ A.in1 (ret Value.none) _ _ s'; exact wpAny_pure (hR s' (hm.mono hsub) (hS.at fun o e => hm.heap S o hSw e))
  | succ k ih =>
    intro i s hk' hi hst hS hR
    have hlt : i < n := by omega
    refine codeAny_builtin F.entry_set_update_loop ?_; rw [Around.under_plainId F.plain_set_update_loop _]
    show wpAny _ A.in1 (pyNext (.ref I) >>= _) _ _ s; refine wpAny_bind (W.item i s _ _ hlt hst fun v s' hP hst' hm => ?_)
    obtain ⟨t, rfl⟩ := hval i v hP
    have hS' : TR P w s'.heap S (seen ss i) := hS.at fun o e => hm.heap S o hSw e
    show wpAny _ A.in1 (holding [Value.str (ss.getD i "") t] (setAdd S (.str (ss.getD i "") t)) >>= _) _ _ s'
    refine wpAny_bind (wpAny_holding ?_); unfold setAdd; refine wpAny_holding (wpAny_bind ((strKind P w).pyHash (k := ss.getD i "") (is_str _ _) ?_))
    refine tr_add (s := { s' with toks := s'.toks + 1 }) hS' (by have := seen_len ss i; omega) fun b h' hsb hS2 => ?_
    refine wpAny_pure ⟨plainId_quiet F.plain_set_update_loop _, ih (i + 1) _ (by omega) hlt (W.frame _ s' _ _ hst' (Nat.le_succ _) fun b hb o e => ?_) hS2 fun s'' hm'' hS'' => ?_⟩
    · rw [hsb.2 b (fun h : b = S => hSf (by rw [← h]; exact hb))]; exact e
    · refine hR s'' (Moved.trans W.gtrans ((hm.mono hsub).then_heap (Nat.le_succ _) fun b o hb e => ?_) hm'') hS''
      rw [hsb.2 b (fun h : b = S => hb (by rw [h]; exact List.mem_cons_self))]; exact e
abbrev fresh0 (w : World) : Obj := { cls := .type "set", dict := none, data := .set #[] 0 (.fresh 0 0 (!w.params.followText "set-order")) }
theorem tr_fresh {h : Heap} {a : Addr} (ho : h.get? a = some (fresh0 w)) : TR P w h a [] := by
  refine ⟨(#[], 0, .fresh 0 0 (!w.params.followText "set-order")), ho, TxOk.nil rfl, List.nodup_nil, List.Pairwise.nil, ?_⟩
  show _ ∨ (!w.params.followText "set-order") = true
  cases w.params.followText "set-order" <;> simp
theorem strs_at : ∀ {vs : List Value} {ss : List Str}, StrsAre vs ss → ∀ (i : Nat) (v : Value), vs[i]? = some v → ∃ t, v = .str (ss.getD i "") t := fun {vs ss} h => by
  induction h with
  | nil => intro i v hv; simp at hv
  | cons y t b ih =>
    intro i v hv
    cases i with
    | zero => simp at hv; subst hv; exact ⟨t, rfl⟩
    | succ i => simpa using ih i v (by simpa using hv)
set_option maxHeartbeats 8000000 in
theorem call_sets {l : Addr} {items : Array Value} (ss : List Str) {Q : Value → Shared → Prop} (hh : A.handled = none) (hl : s.heap.IsList l items) (hit : StrsAre items.toList ss) (hb : ss.length + 1 < scanBound)
    (h : ∀ (h' : Heap) (tk : Nat), TR P w h' s.heap.objs.size (seen ss ss.length) → (∀ b o, s.heap.get? b = some o → h'.get? b = some o) → Q (.ref s.heap.objs.size) { s with heap := h', toks := tk }) :
    wpAny (model P w) A (call (.type "set") [.ref l]) Q E s := by
  have hisz : items.size = ss.length := by have q := hit.length; rw [Array.length_toList] at q; exact q
  obtain ⟨c, tl, hmro⟩ := F.called_set.mro; have hmade := F.called_set.made; have hsub := F.called_set.sub
  refine wpAny_call (codeAny_of_tree ?_); show wpAny _ _ (callAny (.type "set") _) _ _ _
  refine wpAny_pure ⟨Code.quiet_builtin _ (by decide +kernel), codeAny_builtin F.entry_type_call ?_⟩; rw [Around.under_plain (weight_type_call_type "set" [.ref l] []) rfl]
  have h1 := F.called_set.notType; have h2 := F.called_set.canCreate; have hct := F.typeCall_set_1 (.ref l)
  repeat (any_goals (first | assumption | wp_step))
  refine codeAny_mono (code_set_led1 (.ref l) (E := E) (Q₁ := fun obj s₁ => obj = .ref s.heap.objs.size ∧ s₁ = { s with heap := s.heap.push (fresh0 w) }) ⟨rfl, rfl⟩) fun r s₁ hr => ?_
  cases r with
  | error e => exact hr
  | ok fl =>
    cases fl with
    | ret obj =>
      obtain ⟨rfl, rfl⟩ := hr
      have hS : (s.heap.push (fresh0 w)).get? s.heap.objs.size = some (fresh0 w) := Heap.get?_push_size _ rfl
      have hT : Shared.TypeIs { s with heap := s.heap.push (fresh0 w) } (.ref s.heap.objs.size) "set" := ⟨_, hS, rfl⟩
      have hli := F.called_set.init.lookup; have hbi := F.called_set.init.bind (.ref s.heap.objs.size)
      repeat (any_goals (first | assumption | wp_step))
      refine codeAny_mono (codeAny_call_builtin (R := wants (fun r s₂ => r = .none ∧ ∃ h' tk, s₂ = { s with heap := h', toks := tk } ∧ TR P w h' s.heap.objs.size (seen ss ss.length) ∧ (∀ b o, s.heap.get? b = some o → h'.get? b = some o)) E) F.called_set.init.plain F.entry_set_init (check_set_init_1 hT ?_)) fun r₂ s₂ hr₂ => ?_
      · obtain ⟨⟨ocls, odict, odata, oslots⟩, hol, hcl, nl, hdl⟩ := hl
        simp only at hcl hdl; subst hcl; subst hdl
        have hol' : (s.heap.push (fresh0 w)).get? l = some { cls := .type "list", dict := odict, data := .seq items nl, slots := oslots } := Heap.get?_push_of_some _ hol
        have hsls := F.sub_list_set; have hslf := F.sub_list_frozenset; have hne : (Value.type "list" == Value.type "dict") = false := by decide
        have hl1 : (s.heap.push (fresh0 w)).IsList l items := ⟨_, hol', rfl, nl, rfl⟩
        unfold Builtin.«set.__init__» noKeywords Builtin.Frozenset.updateFrom
        generalize hPI : pyIter = PI
        wp_walk
        subst hPI
        refine wpAny_pyIter_list hl1 (wpAny_bind (wpAny_runValue ?_))
        have hlS : l < s.heap.objs.size := Heap.lt_size hol
        have hneI : l ≠ (s.heap.push (fresh0 w)).objs.size := by rw [Heap.size_push]; exact Nat.ne_of_lt (Nat.lt_succ_of_lt hlS)
        have hSf : s.heap.objs.size ∉ [(s.heap.push (fresh0 w)).objs.size, l] := by
          rw [Heap.size_push]; intro z; rcases List.mem_cons.mp z with z | z
          · omega
          · exact Nat.ne_of_gt hlS (List.mem_singleton.mp z)
        refine up_strs ((Walks.list (by simp [hh]) _ l hneI items).toS) s.heap.objs.size hSf ss (by rw [hisz]; exact hb) (fun i v hv => strs_at hit i v (by rw [Array.getElem?_toList]; exact hv)) (items.size - 0) 0 _ (by omega) (Nat.zero_le _) ⟨⟨_, Heap.get?_push_size _ rfl, rfl, rfl⟩, (hl1.push _)⟩ (tr_fresh (Heap.get?_push_of_some _ hS)) fun s' hm hS' => ?_
        obtain ⟨h', g2, d', tk', os'⟩ := s'
        obtain rfl : g2 = s.gens := hm.gens
        obtain rfl : d' = s.drawn := hm.drawn
        obtain rfl : os' = s.os := hm.os
        show wpAny _ _ _ _ _ _; refine wpAny_pure ?_; show wpAny _ _ (ret Value.none) _ _ _
        rw [hisz] at hS'
        refine wpAny_pure ⟨rfl, h', tk', rfl, hS', fun b o e => ?_⟩
        have hb0 : b < s.heap.objs.size := Heap.lt_size e
        refine hm.heap b o (fun z => ?_) (Heap.get?_push_of_some _ (Heap.get?_push_of_some _ e))
        rw [Heap.size_push] at z
        rcases List.mem_cons.mp z with z | z
        · exact Nat.ne_of_lt hb0 z
        · exact Nat.ne_of_lt (Nat.lt_succ_of_lt hb0) (List.mem_singleton.mp z)
      · cases r₂ with
        | error e => exact hr₂
        | ok fl₂ =>
          cases fl₂ with
          | ret r =>
            obtain ⟨rfl, h', tk, rfl, hS', hk'⟩ := hr₂
            repeat (any_goals (first | assumption | wp_step))
            exact h _ _ hS' hk'
          | _ => exact hr₂.elim
    | _ => exact hr.elim
end
end Od

set_option Elab.async false
set_option linter.all false
set_option maxRecDepth 100000
set_option maxHeartbeats 4000000
namespace Od
open PySem PySem.Spec PyProof.Rows L2 PySem.Froz
theorem perm_of : ∀ {l ks : List Str}, l.Nodup → (∀ x ∈ l, x ∈ ks) → ks.length = l.length → ks.Perm l
  | [], ks, _, _, h => by rw [List.eq_nil_of_length_eq_zero h]
  | a :: l, ks, nd, hs, h => by
    have ha := hs a List.mem_cons_self
    have p := List.perm_cons_erase ha
    have nd2 := List.nodup_cons.mp nd
    refine p.trans ((perm_of nd2.2 (fun x hx => ?_) ?_).cons a)
    · exact (List.mem_erase_of_ne fun z => nd2.1 (by rw [← z]; exact hx)).mpr (hs x (List.mem_cons_of_mem _ hx))
    · have := p.length_eq
      simp at this h; omega
theorem strs_mem : ∀ {vs : List Value} {ss : List Str} {k : Str} {u : Tok}, StrsAre vs ss → Value.str k u ∈ vs → k ∈ ss
  | _, _, _, _, .nil, h => by simp at h
  | _, _, _, _, .cons y t r, h => by
    rcases List.mem_cons.mp h with e | e
    · cases e; simp
    · exact List.mem_cons_of_mem _ (strs_mem r e)
theorem perm_len : ∀ {l ks : List Str}, l.Nodup → ks.Nodup → (∀ x, x ∈ l ↔ x ∈ ks) → l.length = ks.length
  | [], ks, _, _, h => by
    cases ks with
    | nil => rfl
    | cons k r => have := (h k).mpr List.mem_cons_self; simp at this
  | a :: l, ks, n1, n2, h => by
    have ha := (h a).mp List.mem_cons_self
    have p := List.perm_cons_erase ha
    have n3 := List.nodup_cons.mp n1
    have n4 := List.nodup_cons.mp (p.nodup_iff.mp n2)
    have := perm_len n3.2 n4.2 fun x => by
      constructor
      · intro hx
        exact (List.mem_erase_of_ne fun z => n3.1 (by rw [← z]; exact hx)).mpr ((h x).mp (List.mem_cons_of_mem _ hx))
      · intro hx
        have hne : x ≠ a := fun z => by subst z; exact n4.1 hx
        exact (List.mem_cons.mp ((h x).mpr (List.mem_of_mem_erase hx))).resolve_left hne
    have e := p.length_eq
    simp at e ⊢; omega
section
variable {P : Program} {w : World} {A : Around} {E : Value → Shared → Prop} {s : Shared}
theorem srt_set {a : Addr} {l : List Str} {Q : Value → Shared → Prop} (T : TR P w s.heap a l) (hh : A.handled = none) (h64 : l.length < 64)
    (hQ : ∀ s' p (out : Array Value) (c : Nat) (ys : List Str), (∀ b o, s.heap.get? b = some o → s'.heap.get? b = some o) → s'.gens = s.gens → s'.os = s.os → s.heap.objs.size ≤ p →
      s'.heap.get? p = some (seqObj "list" out c) → StrsAre out.toList ys → ys.Nodup → (∀ k, k ∈ ys ↔ k ∈ l) → sortedS ys = true → Q (.ref p) s') : wpAny (model P w) A (call (.builtin "sorted") [.ref a]) Q E s := by
  obtain ⟨⟨es, ep, t⟩, ho, F0, nd, r, hl⟩ := T
  have hsz : es.size = l.length := F0.sz
  refine Calls.call_function_entry kind_sorted plain_sorted entry_sorted (args_sorted1 _) ?_; unfold Builtin.«sorted»
  refine wpAny_bind (m := checkCount "sorted" 1 1 _) (wpAny_pure (wpAny_bind (collect_set (A := A.in1) hh ⟨_, ho, rfl, rfl⟩ F0.fit (by show es.size < scanBound; rw [hsz]; unfold scanBound; omega) r hl fun s1 vs k1 hz g1 o1 pm => ?_)))
  have hvl : vs.length = l.length := by rw [pm.length_eq, List.length_map, Array.length_toList]; exact hsz
  have key : ∀ v ∈ vs, ∃ k u, v = .str k u := fun v hv => by
    obtain ⟨e, he, q⟩ := List.mem_map.mp (pm.mem_iff.mp hv)
    obtain ⟨⟨k, hk, _⟩, _⟩ := F0.el e he
    obtain ⟨u, hu⟩ := Value.isStrOf_shape hk
    exact ⟨k, u, by rw [← q]; exact hu⟩
  have hI : ∃ ks, StrsAre vs ks := by
    clear pm hvl
    induction vs with
    | nil => exact ⟨[], .nil⟩
    | cons v vs ih =>
      obtain ⟨k, u, rfl⟩ := key v (by simp)
      obtain ⟨ks, h⟩ := ih fun v hv => key v (by simp [hv])
      exact ⟨k :: ks, .cons k u h⟩
  obtain ⟨ks, hI⟩ := hI
  have pl : ks.Perm l := perm_of nd (fun k hk => by
    obtain ⟨e, he, q⟩ := (F0.mem k).mp hk
    obtain ⟨u, hu⟩ := Value.isStrOf_shape q
    exact strs_mem hI (pm.mem_iff.mpr (List.mem_map.mpr ⟨e, he, hu⟩))) (by rw [← hvl]; exact hI.length.symm)
  have mem : ∀ k, k ∈ ks ↔ k ∈ l := fun k => pl.mem_iff
  have ndk : ks.Nodup := pl.nodup_iff.mpr nd
  refine wpAny_bind (wpAny_newList ?_ (by rw [hvl, sizeLine_eq]; omega))
  have hoL : (s1.heap.push (seqObj "list" vs.toArray 0)).get? s1.heap.objs.size = some (seqObj "list" vs.toArray 0) := Heap.get?_push_size _ rfl
  refine wpAny_bind (wpAny_holding (wpAny_call_entry slot_list_sort ⟨_, hoL, rfl⟩ entry_list_sort (list_sort_treeK PyProof.Rows.strKind_oneLt hoL hI.keysOf (fun v₁ v₂ rest e => keyKind_strs (by rw [← e]; exact hI)) (by rw [hvl]; exact h64) fun st' hp hs => ⟨_, rfl, ?_⟩) (args_list_sort _)))
  obtain ⟨ys, g2, g3, g4⟩ := sorted_out_str hI hp hs
  obtain ⟨c, hc⟩ := sortedHeap_at (vs := vs) (out := (arrOf st').map (·.2)) hoL
  refine wpAny_pure ⟨_, rfl, hQ _ s1.heap.objs.size _ c ys (fun b u e => ?_) g1 o1 hz hc g2 (g3.nodup_iff.mpr ndk) (fun k => by rw [g3.mem_iff]; exact mem k) g4⟩
  have q := k1 b u e; have hlt := Heap.lt_size q
  show (sortedHeap (s1.heap.push (seqObj "list" vs.toArray 0)) s1.heap.objs.size vs _).get? b = some u
  rw [sortedHeap_old (Nat.ne_of_lt hlt) (by rw [size_push']; exact Nat.lt_succ_of_lt hlt)]; exact Heap.get?_push_of_some _ q
end
/-! ### over the layer -/
def SetTS (P : Program) (w : World) (a : Addr) (l : List Str) : HO := .ext fun h => TR P w h a l
section
variable {X : Cx}
theorem cr_setS : CallR X (.type "set") (fun xs H Q => X.calm = true ∧ ∃ (a : Addr) (ss : List Str), xs = [.ref a] ∧ SqL X.K H a (ss.map V.str) ∧ ss.length < 1000 ∧ ∀ p, H p = none → Q (.ref p) (upd H p (SetTS X.prog X.w p (seen ss ss.length)))) := by
  intro pins s σ H xs us Q I r h
  obtain ⟨hc, a, ss, rfl, hs, hb, q⟩ := h
  obtain ⟨its, rv, hl, _⟩ := I.list hs
  rw [Vals.ref1 r]
  refine call_sets ss (I.ok.hd hc) hl.isList (by simpa using rv.strs) (by unfold scanBound; omega) fun h' tk T kp => ?_
  have hn : H s.heap.objs.size = none := I.hok.fresh (Nat.le_refl _)
  refine ⟨.ref _, upd H s.heap.objs.size (SetTS X.prog X.w s.heap.objs.size (seen ss ss.length)), I.laid (t' := tk) kp (Nat.le_refl _) ⟨T, ?_, fun h1 h2 p k => p.at k⟩, rfl, q _ hn⟩
  obtain ⟨D, ho, _⟩ := T
  exact ⟨_, ho⟩
theorem cr_srtS : CallR X (.builtin "sorted") (fun xs H Q => X.calm = true ∧ ∃ (a : Addr) (l : List Str), xs = [.ref a] ∧ H a = some (SetTS X.prog X.w a l) ∧ l.length < 64 ∧ ∀ (ys : List Str) p, ys.Nodup → (∀ k, k ∈ ys ↔ k ∈ l) → sortedS ys = true → H p = none → Q (.ref p) (upd H p (.lst (ys.map V.str)))) := by
  intro pins s σ H vs us Q I r h
  obtain ⟨hc, a, l, rfl, ha, h64, q⟩ := h
  have T : TR X.prog X.w s.heap a l := (I.hok a _ ha).1
  rw [Vals.ref1 r]
  refine srt_set T (I.ok.hd hc) h64 fun s' p out c ys k g o hp hg hi nd hm hs => ?_
  have hlen : (ys.map V.str).length ≤ sizeLine := by
    have : ys.Perm l := (perm_of nd (fun x hx => (hm x).mp hx) (by
      obtain ⟨D, _, F, nd2, _⟩ := T
      have h1 := perm_len nd nd2 hm
      exact h1.symm)).symm
    rw [List.length_map, this.length_eq, sizeLine_eq]; omega
  have hn : H p = none := I.hok.fresh hp
  have J : Inv X pins σ (upd H p (.lst (ys.map V.str))) { s with heap := s'.heap, gens := s'.gens, drawn := s'.drawn, toks := s'.toks } := I.call (ch := []) (Un.laid k hp hn) (I.hok.laid k hp ⟨hlen, out.toList, c, vals_of_strs hi, by rw [Array.toArray_toList]; exact hg⟩) (by rw [g]; exact I.bare) (fun _ z => nomatch z)
  have e : s' = { s with heap := s'.heap, gens := s'.gens, drawn := s'.drawn, toks := s'.toks } := by cases s'; cases s; cases o; rfl
  rw [e]; exact ⟨.ref p, _, J, rfl, q ys p nd hm hs hn⟩
variable {M : Addr → Prop} {e : DE} {cs cs1 : Cs} {pos p pos2 p2 : Pos} {a : Expr}
/-- sorted(set(texts)) -/
theorem e_sset {ss ts : List Str} (ha : EE X M e cs a (.lst (ss.map D.str)) cs1) (hl : ss.length < 64) (h : ∀ ys : List Str, ys.Nodup → (∀ x, x ∈ ys ↔ x ∈ ss) → sortedS ys = true → ys = ts) (m1 : X.mg "sorted" = none) (m2 : X.mg "set" = none) (hc : X.calm = true := by rfl) (g1 : Gl X "sorted" := by rfl) (g2 : Gl X "set" := by rfl)
    (he : starEach [a] X.env = (false, eval a X.env) :: starEach [] X.env := by rfl) (he2 : starEach [.Call (.Name "set" p2) [a] [] pos2] X.env = (false, eval (.Call (.Name "set" p2) [a] [] pos2) X.env) :: starEach [] X.env := by rfl) : EE X M e cs (.Call (.Name "sorted" p) [.Call (.Name "set" p2) [a] [] pos2] [] pos) (.lst (ts.map D.str)) cs1 where
  dm := ha.dm
  k := fun σ H Q S k => by
    refine we_of (pe_callB cr_srtS g1 m1 (by decide +kernel) (pa_cons (pe_callTy cr_setS g2 m2 (by decide +kernel) (pa_cons pe_w pa_nil he) (by decide) (by decide) he rfl) pa_nil he2) (by decide) (by decide) he2 rfl) (ha.k σ H _ S fun v H1 S1 x1 r1 => ?_)
    obtain ⟨ad, xs, rfl, _, h1, ra⟩ := r_lst r1
    obtain rfl := Rs.strs.mp ra
    have sl : (seen ss ss.length).length ≤ ss.length := seen_len ss ss.length
    refine ⟨hc, ad, ss, rfl, .of h1, by omega, fun q hq => ⟨hc, q, _, rfl, upd_same, by omega, fun ys q2 nd hm hs hq2 => ?_⟩⟩
    obtain rfl := h ys nd (fun x => by rw [hm x, seen_mem ss _ (Nat.le_refl _) x, List.take_length]) hs
    have S2 := S1.ex (Ext.new (A := []) (o := SetTS X.prog X.w q (seen ss ss.length)) hq)
    exact k _ _ (S2.ex (Ext.new hq2)) (x1.trans ((Ext.new hq).trans (Ext.new hq2))) (r_newl S2.mt hq2 (Rs.strs.mpr rfl))
end
end Od

set_option Elab.async false
set_option linter.all false
set_option maxRecDepth 100000
set_option maxHeartbeats 8000000
/-! OdSet3: set(text), sorted(set(text)), list(text) -/
namespace Od
open PySem PySem.Spec PyProof.Rows L2 PySem.Froz
section
variable {P : Program} {w : World} {A : Around} {E : Value → Shared → Prop} {s : Shared}
theorem call_setstr {x : Str} {t : Tok} {Q : Value → Shared → Prop} (hh : A.handled = none) (hb : x.cps.size + 1 < scanBound)
    (h : ∀ (h' : Heap) (tk : Nat), TR P w h' s.heap.objs.size (seen (Od.signs x) (Od.signs x).length) → (∀ b o, s.heap.get? b = some o → h'.get? b = some o) → Q (.ref s.heap.objs.size) { s with heap := h', toks := tk }) :
    wpAny (model P w) A (call (.type "set") [.str x t]) Q E s := by
  have hisz : x.cps.size = (Od.signs x).length := by simp [Od.signs]
  obtain ⟨c, tl, hmro⟩ := F.called_set.mro; have hmade := F.called_set.made; have hsub := F.called_set.sub
  refine wpAny_call (codeAny_of_tree ?_); show wpAny _ _ (callAny (.type "set") _) _ _ _
  refine wpAny_pure ⟨Code.quiet_builtin _ (by decide +kernel), codeAny_builtin F.entry_type_call ?_⟩; rw [Around.under_plain (weight_type_call_type "set" [.str x t] []) rfl]
  have h1 := F.called_set.notType; have h2 := F.called_set.canCreate; have hct := F.typeCall_set_1 (.str x t)
  repeat (any_goals (first | assumption | wp_step))
  refine codeAny_mono (code_set_led1 (.str x t) (E := E) (Q₁ := fun obj s₁ => obj = .ref s.heap.objs.size ∧ s₁ = { s with heap := s.heap.push (fresh0 w) }) ⟨rfl, rfl⟩) fun r s₁ hr => ?_
  cases r with
  | error e => exact hr
  | ok fl =>
    cases fl with
    | ret obj =>
      obtain ⟨rfl, rfl⟩ := hr
      have hS : (s.heap.push (fresh0 w)).get? s.heap.objs.size = some (fresh0 w) := Heap.get?_push_size _ rfl
      have hT : Shared.TypeIs { s with heap := s.heap.push (fresh0 w) } (.ref s.heap.objs.size) "set" := ⟨_, hS, rfl⟩
      have hli := F.called_set.init.lookup; have hbi := F.called_set.init.bind (.ref s.heap.objs.size)
      repeat (any_goals (first | assumption | wp_step))
      refine codeAny_mono (codeAny_call_builtin (R := wants (fun r s₂ => r = .none ∧ ∃ h' tk, s₂ = { s with heap := h', toks := tk } ∧ TR P w h' s.heap.objs.size (seen (Od.signs x) (Od.signs x).length) ∧ (∀ b o, s.heap.get? b = some o → h'.get? b = some o)) E) F.called_set.init.plain F.entry_set_init (check_set_init_1 hT ?_)) fun r₂ s₂ hr₂ => ?_
      · unfold Builtin.«set.__init__» noKeywords Builtin.Frozenset.updateFrom
        have hsls := F.sub_str_set; have hslf := F.sub_str_frozenset; have hne : (Value.type "str" == Value.type "dict") = false := by decide
        generalize hPI : pyIter = PI
        wp_walk
        subst hPI
        refine wpAny_pyIter_str ?_
        intro o St W st0
        refine wpAny_bind (wpAny_runValue ?_)
        have hSf : s.heap.objs.size ∉ [(s.heap.push (fresh0 w)).objs.size] := by
          rw [Heap.size_push]; intro z
          have := List.mem_singleton.mp z
          omega
        refine up_strs ((W _ (by simp [hh])).toS) s.heap.objs.size hSf (Od.signs x) hb (fun i v hv => by
          obtain ⟨c, u, hc, rfl⟩ := hv
          refine ⟨u, ?_⟩
          have : (Od.signs x).getD i "" = ⟨#[c]⟩ := by simp [Od.signs, List.getD, hc]
          rw [this]) (x.cps.size - 0) 0 _ (by omega) (Nat.zero_le _) st0 (tr_fresh (Heap.get?_push_of_some _ hS)) fun s' hm hS' => ?_
        obtain ⟨h', g2, d', tk', os'⟩ := s'
        obtain rfl : g2 = s.gens := hm.gens
        obtain rfl : d' = s.drawn := hm.drawn
        obtain rfl : os' = s.os := hm.os
        show wpAny _ _ _ _ _ _; refine wpAny_pure ?_; show wpAny _ _ (ret Value.none) _ _ _
        rw [hisz] at hS'
        refine wpAny_pure ⟨rfl, h', tk', rfl, hS', fun b o e => ?_⟩
        have hb0 : b < s.heap.objs.size := Heap.lt_size e
        refine hm.heap b o (fun z => ?_) (Heap.get?_push_of_some _ (Heap.get?_push_of_some _ e))
        rw [Heap.size_push] at z
        rcases List.mem_cons.mp z with z | z
        · exact Nat.ne_of_lt hb0 z
        · exact Nat.ne_of_lt (Nat.lt_succ_of_lt hb0) (List.mem_singleton.mp z)
      · cases r₂ with
        | error e => exact hr₂
        | ok fl₂ =>
          cases fl₂ with
          | ret r =>
            obtain ⟨rfl, h', tk, rfl, hS', hk'⟩ := hr₂
            repeat (any_goals (first | assumption | wp_step))
            exact h _ _ hS' hk'
          | _ => exact hr₂.elim
    | _ => exact hr.elim
end
section
variable {X : Cx}
theorem cr_setStr : CallR X (.type "set") (fun xs H Q => X.calm = true ∧ ∃ s : Str, xs = [.str s] ∧ s.cps.size < 1000 ∧ ∀ p, H p = none → Q (.ref p) (upd H p (SetTS X.prog X.w p (seen (signs s) (signs s).length)))) := by
  intro pins s σ H xs us Q I r h
  obtain ⟨hc, z, rfl, hb, q⟩ := h
  obtain ⟨u, rfl, t, rfl⟩ := vals1 r
  refine call_setstr (I.ok.hd hc) (by unfold scanBound; omega) fun h' tk T kp => ?_
  have hn : H s.heap.objs.size = none := I.hok.fresh (Nat.le_refl _)
  refine ⟨.ref _, upd H s.heap.objs.size (SetTS X.prog X.w s.heap.objs.size (seen (signs z) (signs z).length)), I.laid (t' := tk) kp (Nat.le_refl _) ⟨T, ?_, fun h1 h2 p k => p.at k⟩, rfl, q _ hn⟩
  obtain ⟨D, ho, _⟩ := T
  exact ⟨_, ho⟩
theorem cr_listStr : CallR X (.type "list") (fun xs H Q => X.calm = true ∧ ∃ s : Str, xs = [.str s] ∧ s.cps.size ≤ 100000 ∧ ∀ p, H p = none → Q (.ref p) (upd H p (.lst ((signs s).map V.str)))) := by
  intro pins s σ H xs us Q I r h
  obtain ⟨hc, z, rfl, hb, q⟩ := h
  obtain ⟨u, rfl, t, rfl⟩ := vals1 r
  refine call_list_str (I.ok.hd hc) z t (hn := Nat.le_trans hb (by rw [sizeLine_eq]; decide)) fun h' tk acc' c' kp e hacc => ?_
  have hv : Vals ((signs z).map V.str) acc'.toList := by
    refine vals_of_strs (StrsAre.of_carried (carriedAll_of_get _ _ (by simp [signs, hacc.1]) fun i v h => ?_))
    obtain ⟨c, u, hc, rfl⟩ := hacc.2 i v (by simpa using h)
    exact ⟨.str ⟨#[c]⟩, by simp [signs, hc], .str _ _⟩
  exact ⟨.ref s.heap.objs.size, _, I.laid (t' := tk) kp (Nat.le_refl _) (show ObjOk X.prog X.w _ h' _ (.lst _) from ⟨by simp [signs]; rw [sizeLine_eq]; omega, acc'.toList, c', hv, by simpa using e⟩), rfl, q _ (I.hok.fresh (Nat.le_refl _))⟩
theorem kd_listS {s : Str} (h : s.cps.size ≤ 100000) (hc : X.calm = true := by rfl) : CalD X (.type "list") [.str s] (.lst ((signs s).map D.str)) := ⟨_, cr_listStr, fun M H vs Q mt hv k => by
  obtain ⟨v, rfl, r⟩ := rs1 hv
  obtain rfl : v = .str s := by simpa [R] using r
  exact ⟨hc, s, rfl, h, fun p hp => k _ _ (Ext.new hp) (r_newl mt hp (Rs.strs.mpr rfl))⟩⟩
variable {M : Addr → Prop} {e : DE} {cs cs1 : Cs} {pos p pos2 p2 : Pos} {a : Expr}
/-- sorted(set(text)) -/
theorem e_ssetS {s : Str} {ts : List Str} (ha : EE X M e cs a (.str s) cs1) (hl : s.cps.size < 64) (h : ∀ ys : List Str, ys.Nodup → (∀ x, x ∈ ys ↔ x ∈ signs s) → sortedS ys = true → ys = ts) (m1 : X.mg "sorted" = none) (m2 : X.mg "set" = none) (hc : X.calm = true := by rfl) (g1 : Gl X "sorted" := by rfl) (g2 : Gl X "set" := by rfl)
    (he : starEach [a] X.env = (false, eval a X.env) :: starEach [] X.env := by rfl) (he2 : starEach [.Call (.Name "set" p2) [a] [] pos2] X.env = (false, eval (.Call (.Name "set" p2) [a] [] pos2) X.env) :: starEach [] X.env := by rfl) : EE X M e cs (.Call (.Name "sorted" p) [.Call (.Name "set" p2) [a] [] pos2] [] pos) (.lst (ts.map D.str)) cs1 where
  dm := ha.dm
  k := fun σ H Q S k => by
    refine we_of (pe_callB cr_srtS g1 m1 (by decide +kernel) (pa_cons (pe_callTy cr_setStr g2 m2 (by decide +kernel) (pa_cons pe_w pa_nil he) (by decide) (by decide) he rfl) pa_nil he2) (by decide) (by decide) he2 rfl) (ha.k σ H _ S fun v H1 S1 x1 r1 => ?_)
    obtain rfl : v = .str s := by simpa [R] using r1
    have sz : (signs s).length = s.cps.size := by simp [signs]
    have sl : (seen (signs s) (signs s).length).length ≤ (signs s).length := seen_len _ _
    refine ⟨hc, s, rfl, by omega, fun q hq => ⟨hc, q, _, rfl, upd_same, by omega, fun ys q2 nd hm hs hq2 => ?_⟩⟩
    obtain rfl := h ys nd (fun x => by rw [hm x, seen_mem _ _ (Nat.le_refl _) x, List.take_length]) hs
    have S2 := S1.ex (Ext.new (A := []) (o := SetTS X.prog X.w q (seen (signs s) (signs s).length)) hq)
    exact k _ _ (S2.ex (Ext.new hq2)) (x1.trans ((Ext.new hq).trans (Ext.new hq2))) (r_newl S2.mt hq2 (Rs.strs.mpr rfl))
end
end Od

set_option Elab.async false
set_option linter.all false
set_option maxRecDepth 100000
set_option maxHeartbeats 4000000
/-! La10: the law's fillings: _law_put, _law_made_all, _law_filling. -/
namespace Od
open PySem L2 TL PySem.Spec
abbrev sPut : Stmt := top 39
abbrev sMadeAll : Stmt := top 40
abbrev sFilling : Stmt := top 41
local macro_rules
  | `(tactic| walk_at "le") => `(tactic| repeat (first | exact LeD.nil | apply LeD.drop | apply LeD.same))
/-! ### the plain part -/
theorem mixF_map {α β : Type} (h : α → β) : ∀ (ts acc : List α) (b : Bag), mixF (acc.map h) b (ts.map h) = ((mixF acc b ts).1.map h, (mixF acc b ts).2)
  | [], acc, b => rfl
  | t :: ts, acc, b => by
    have e : insF (acc.map h) b (h t) = ((insF acc b t).1.map h, (insF acc b t).2) := by
      unfold insF
      simp [List.map_take, List.map_drop]
    show mixF (insF (acc.map h) b (h t)).1 (insF (acc.map h) b (h t)).2 (ts.map h) = _
    rw [e]
    exact mixF_map h ts _ _
/-- one letter more -/
def fil1 (ts : List Nat) (n : Nat) (s : Fil × Bag) (c : Nat) : Fil × Bag :=
  if 0 < (draw s.2 4).1 then (s.1 ++ [(c, (formF n (draw s.2 4).2 ts).1)], (formF n (draw s.2 4).2 ts).2) else (s.1, (draw s.2 4).2)
def filF (ts : List Nat) (n : Nat) (s : Fil × Bag) (cs : List Nat) : Fil × Bag := cs.foldl (fil1 ts n) s
/-- the law's filling -/
def fillF (b : Bag) (cs ts : List Nat) (n : Nat) : Fil × Bag := filF ts n ([], (mixF [] b cs).2) (mixF [] b cs).1
theorem fil1_ok {ts : List Nat} {n : Nat} {s : Fil × Bag} {c : Nat} (h : s.2.Ok) : (fil1 ts n s c).2.Ok := by
  unfold fil1
  split
  · exact formF_ok n (draw_ok h 4) ts
  · exact draw_ok h 4
theorem filF_ok {ts : List Nat} {n : Nat} : ∀ (cs : List Nat) {s : Fil × Bag}, s.2.Ok → (filF ts n s cs).2.Ok
  | [], _, h => h
  | c :: cs, s, h => filF_ok cs (fil1_ok h)
theorem fillF_ok {b : Bag} (h : b.Ok) (cs ts : List Nat) (n : Nat) : (fillF b cs ts n).2.Ok := filF_ok _ (mixF_ok cs h)
theorem fil1_keys {ts : List Nat} {n : Nat} {s : Fil × Bag} {c : Nat} : ∀ x ∈ (fil1 ts n s c).1, x ∈ s.1 ∨ (x.1 = c ∧ ∃ b, x.2 = (formF n b ts).1) := fun x hx => by
  unfold fil1 at hx
  split at hx
  · rcases List.mem_append.mp hx with h | h
    · exact .inl h
    · rcases List.mem_singleton.mp h with rfl
      exact .inr ⟨rfl, _, rfl⟩
  · exact .inl hx
theorem filF_mem {ts : List Nat} {n : Nat} : ∀ (cs : List Nat) {s : Fil × Bag}, ∀ x ∈ (filF ts n s cs).1, x ∈ s.1 ∨ (x.1 ∈ cs ∧ ∃ b, x.2 = (formF n b ts).1)
  | [], _, x, h => .inl h
  | c :: cs, s, x, h => by
    rcases filF_mem cs x h with h | ⟨h1, h2⟩
    · rcases fil1_keys x h with h | ⟨h1, h2⟩
      · exact .inl h
      · exact .inr ⟨by rw [h1]; exact List.mem_cons_self .., h2⟩
    · exact .inr ⟨List.mem_cons_of_mem _ h1, h2⟩
theorem filF_nd {ts : List Nat} {n : Nat} : ∀ (cs : List Nat) {s : Fil × Bag}, (s.1.map (·.1)).Nodup → cs.Nodup → (∀ c ∈ cs, c ∉ s.1.map (·.1)) → ((filF ts n s cs).1.map (·.1)).Nodup
  | [], _, h, _, _ => h
  | c :: cs, s, h, hc, hd => by
    rw [List.nodup_cons] at hc
    have h1 : ((fil1 ts n s c).1.map (·.1)).Nodup := by
      unfold fil1
      split
      · rw [List.map_append, List.nodup_append]
        exact ⟨h, by simp, fun a ha b hb => by
          rcases List.mem_singleton.mp hb with rfl
          exact fun z => hd _ (List.mem_cons_self ..) (z ▸ ha)⟩
      · exact h
    refine filF_nd cs h1 hc.2 fun x hx z => ?_
    obtain ⟨p, hp, rfl⟩ := List.mem_map.mp z
    rcases fil1_keys p hp with hp | ⟨hp, _⟩
    · exact hd p.1 (List.mem_cons_of_mem _ hx) (List.mem_map_of_mem (f := (·.1)) hp)
    · exact hc.1 (hp ▸ hx)
theorem filF_len {ts : List Nat} {n : Nat} : ∀ (cs : List Nat) {s : Fil × Bag}, (filF ts n s cs).1.length ≤ s.1.length + cs.length
  | [], _ => by simp [filF]
  | c :: cs, s => by
    have h1 : (fil1 ts n s c).1.length ≤ s.1.length + 1 := by
      unfold fil1
      split <;> simp
    have h2 := filF_len (ts := ts) (n := n) cs (s := fil1 ts n s c)
    show (filF ts n (fil1 ts n s c) cs).1.length ≤ _
    simp only [List.length_cons]
    omega
theorem filF_take {ts : List Nat} {n : Nat} {cs : List Nat} {s : Fil × Bag} {i c : Nat} (h : cs[i]? = some c) : filF ts n s (cs.take (i + 1)) = fil1 ts n (filF ts n s (cs.take i)) c := by
  unfold filF
  rw [List.take_add_one, h]
  simp [List.foldl_append]
theorem fillF_fil {b : Bag} {cs ts : List Nat} {n : Nat} (hn : cs.Nodup) (ha : ∀ c ∈ cs, c ∈ alpha) (hl : cs.length ≤ 60) (ht : CsOk ts) (hta : ∀ c ∈ ts, c ∈ alpha) : (fillF b cs ts n).1.Ok ∧ ∀ p ∈ (fillF b cs ts n).1, p.2.sz < 2 ^ (n + 1) ∧ p.2.nest ≤ n + 1 := by
  have hp : (mixF [] b cs).1.Perm cs := by simpa using mixF_perm cs [] b
  have hmem : ∀ p ∈ (fillF b cs ts n).1, p.1 ∈ cs ∧ ∃ b', p.2 = (formF n b' ts).1 := fun p hp' => by
    rcases filF_mem _ p hp' with h | ⟨h1, h2⟩
    · cases h
    · exact ⟨hp.mem_iff.mp h1, h2⟩
  refine ⟨⟨fun p h => ha _ (hmem p h).1, fun p h => ?_, ?_, ?_⟩, fun p h => ?_⟩
  · obtain ⟨_, b', e⟩ := hmem p h
    rw [e]; exact (formF_fm ht hta n b').1
  · exact filF_nd _ (by simp) (hp.nodup_iff.mpr hn) (by simp)
  · have h1 := filF_len (ts := ts) (n := n) (mixF [] b cs).1 (s := ([], (mixF [] b cs).2))
    have h2 := hp.length_eq
    have h3 : ([] : Fil).length = 0 := rfl
    show (filF ts n ([], (mixF [] b cs).2) (mixF [] b cs).1).1.length ≤ 60
    simp only [List.length_nil] at h1
    omega
  · obtain ⟨_, b', e⟩ := hmem p h
    rw [e]
    obtain ⟨_, h2, h3⟩ := formF_fm ht hta n b'
    exact ⟨h2, h3⟩
section
variable (P : Program) (w : World) (K : PySem.W.Frag) (mg : Str → Option Value) (base : Heap)
abbrev PutD (n k : Nat) : Prop := Dfn P w K mg base "_law_put" k (puSp K mg (fun i : Fm × Fil => i.1.nest ≤ n) (fun i => [i.1.d, i.2.dict Fm.d]) (fun i => (sub i.2.f i.1).d))
abbrev MadeAllD (n k : Nat) : Prop := Dfn P w K mg base "_law_made_all" k (puSp K mg (fun g : Fil => g.Ok ∧ ∀ p ∈ g, p.2.sz ≤ 10000 ∧ p.2.nest ≤ n) (fun g => [g.dict Fm.d]) (fun g => g.dict Fm.o))
structure FlI where
  ad : Addr
  b : Bag
  cs : List Nat
  ts : List Nat
structure FlI.Pre (i : FlI) : Prop where
  ok : i.b.Ok
  nd : i.cs.Nodup
  le : i.cs.length ≤ 60
  ts : CsOk i.ts
abbrev FillingD (n k : Nat) : Prop := Dfn P w K mg base "_law_filling" k (fnSp K mg FlI.Pre (fun i => [.ref i.ad, .str (strOf i.cs), .str (strOf i.ts), .int (n : Int)]) (fun i => [(i.ad, i.b.c)]) (fun i => (fillF i.b i.cs i.ts n).1.dict Fm.d) (fun i => [(i.ad, (fillF i.b i.cs i.ts n).2.c)]))
variable {P w K mg base}
theorem scPut : FnScope ["_law_mine", "_law_given", "_law_part"] ["_law_mine", "_law_given"] (defScope sPut) := ⟨rfl, rfl, rfl, by decide +kernel, rfl, by decide +kernel, by decide +kernel⟩
theorem scMadeAll : FnScope ["_law_given", "_law_sign"] ["_law_given"] (defScope sMadeAll) := ⟨rfl, rfl, rfl, by decide +kernel, rfl, by decide +kernel, by decide +kernel⟩
theorem scFilling : FnScope ["_law_bag", "_law_signs_here", "_law_targets", "_law_deep", "_law_found", "_law_sign"] ["_law_bag", "_law_signs_here", "_law_targets", "_law_deep"] (defScope sFilling) := ⟨rfl, rfl, rfl, by decide +kernel, rfl, by decide +kernel, by decide +kernel⟩
theorem ok_put {f : Addr} {fd : FuncData} (F : Fun K "_law_put" "_law_put" sPut f fd) (hm : mg "_law_put" = some (.ref f)) (hb : Binds K fd ["_law_mine", "_law_given"] []) (B : Blt mg) (IN : InnerD P w K mg base 2) : ∀ n, PutD P w K mg base n (3 + n) := by
  intro n
  induction n with
  | zero => exact dfn_of F hm scPut hb (fun i => rfl) fun cdv A outer s H0 E i M Q hp hr kq => absurd hp (by have := nest_pos i.1; omega)
  | succ n ih =>
    refine dfn_of F hm scPut hb (fun i => rfl) fun cdv A outer s H0 E i M Q hp hr kq => ?_
    obtain ⟨g, s⟩ := i
    dsimp only at hp kq
    have hu := hu_of hr
    have hr2 : Room 2 _ := hr.mono (show 2 ≤ 3 + n by omega)
    cases g with
    | le c =>
      refine at_if (b0 := true) (cs1 := []) (ET.eq (t_cmp (e_ix (e_name 0 rfl) e_int (xd_tup (j := 0) rfl rfl)) e_str cd_eqS) (by decide +kernel)) (fun _ => ?_) (fun h => by cases h)
      refine at_end (EE.eq (e_dgetD (s := sg c) (y := .tup [.str "letter", .str (sg c)]) (e_name 1 rfl) (e_ix (e_name 0 rfl) e_int (xd_tup (j := 1) rfl rfl)) (e_name 0 rfl) hu) ?_) rfl (.head _) kq
      rw [dvl_fil]
      show _ = ((s.f c).getD (.le c)).d
      cases s.f c <;> rfl
    | cst b =>
      refine at_if (b0 := false) (cs1 := []) (ET.eq (t_cmp (e_ix (e_name 0 rfl) e_int (xd_tup (j := 0) rfl rfl)) e_str cd_eqS) (cw_ne b)) (fun h => by cases h) (fun _ => at_nil ?_)
      exact at_end (d := (Fm.cst b).d) (e_bin (e_tup (a_cons (e_ix (e_name 0 rfl) e_int (xd_tup (j := 0) rfl rfl)) a_nil)) (e_bty (kd_tupL (ds := [])) (a_cons (EE.eq (e_lcM [("_law_part", 2)] (Fm.cst b).inner Fm.d (fun x => (sub s.f x).d) (ei_list (EE.eq (e_call IN hr2 (a_cons (e_name 0 rfl) a_nil) (.cst b) trivial rfl) rfl)) (ctg_name 2 scPut.nd (by decide) rfl) (fun _ _ => trivial) (by simp [Fm.inner])
        (fun x hx M' hM s2 H2 C2 cl2 fp2 => by simp [Fm.inner] at hx) (blkOk_by rfl) scPut.nd) rfl) a_nil) B.tuple) (bd_addT (by simp))) rfl (.head _) kq
    | bin o a b =>
      have hn : 1 + max a.nest b.nest ≤ n + 1 := hp
      refine at_if (b0 := false) (cs1 := []) (ET.eq (t_cmp (e_ix (e_name 0 rfl) e_int (xd_tup (j := 0) rfl rfl)) e_str cd_eqS) (Op.w_ne o)) (fun h => by cases h) (fun _ => at_nil ?_)
      exact at_end (d := (Fm.bin o (sub s.f a) (sub s.f b)).d) (e_bin (e_tup (a_cons (e_ix (e_name 0 rfl) e_int (xd_tup (j := 0) rfl rfl)) a_nil)) (e_bty (kd_tupL (ds := [(sub s.f a).d, (sub s.f b).d])) (a_cons (EE.eq (e_lcM [("_law_part", 2)] (Fm.bin o a b).inner Fm.d (fun x => (sub s.f x).d) (ei_list (EE.eq (e_call IN hr2 (a_cons (e_name 0 rfl) a_nil) (.bin o a b) trivial rfl) rfl)) (ctg_name 2 scPut.nd (by decide) rfl) (fun _ _ => trivial) (by simp [Fm.inner])
        (fun x hx M' hM s2 H2 C2 cl2 fp2 => EE.eq (e_call ih hr (a_cons (e_name 2 rfl) (a_cons (e_name 1 rfl) a_nil)) (x, s) (by
          simp only [Fm.inner, List.mem_cons, List.not_mem_nil, or_false] at hx
          rcases hx with rfl | rfl
          · show x.nest ≤ n; omega
          · show x.nest ≤ n; omega) rfl) rfl) (blkOk_by rfl) scPut.nd) rfl) a_nil) B.tuple) (bd_addT (by simp))) rfl (.head _) kq
theorem kpairs_fil (g : Fil) : (g.map fun p => D.tup [.str (sg p.1), p.2.o]) = kpairs g.k (g.v Fm.o) := by
  induction g with
  | nil => rfl
  | cons p g ih =>
    rw [List.map_cons, ih]; rfl
theorem ok_madeAll {f : Addr} {fd : FuncData} (F : Fun K "_law_made_all" "_law_made_all" sMadeAll f fd) (hm : mg "_law_made_all" = some (.ref f)) (hb : Binds K fd ["_law_given"] []) (hd : mg "dict" = none) {n k : Nat} (MD : MadeD P w K mg base n k) : MadeAllD P w K mg base n (k + 1) := by
  refine dfn_of F hm scMadeAll hb (fun i => rfl) fun cdv A outer s H0 E g M Q hp hr kq => ?_
  obtain ⟨gok, hgs⟩ := hp
  have hu := hu_of hr
  have hlen := gok.len
  refine at_end (d := g.dict Fm.o) (e_bty (kd_dictP (kpairs_fil g) (Fil.kl g Fm.o) (Fil.knd g gok)) (a_cons (e_lcD [("_law_sign", 1)] 0 rfl g (fun p => Sum.inr (sg p.1)) (fun p => D.tup [.str (sg p.1), p.2.o]) rfl (ctg_name 1 scMadeAll.nd (by decide) rfl) (fun _ _ => trivial) (by omega)
    (fun x hx M' hM s2 H2 C2 cl2 fp2 => e_tup (a_cons (e_name 1 rfl) (a_cons (EE.eq (e_call MD hr (a_cons (e_dix (y := x.2.d) (e_name 0 rfl) (e_name 1 rfl) (by rw [dvl_fil, Fil.f_eq gok hx]; rfl) hu) a_nil) x.2 ⟨gok.ok x hx, (hgs x hx).1, (hgs x hx).2⟩ rfl) rfl) a_nil))) (blkOk_by rfl) scMadeAll.nd) a_nil) hd) rfl (.head _) kq
theorem ok_filling {f : Addr} {fd : FuncData} (F : Fun K "_law_filling" "_law_filling" sFilling f fd) (hm : mg "_law_filling" = some (.ref f)) (hb : Binds K fd ["_law_bag", "_law_signs_here", "_law_targets", "_law_deep"] []) (B : Blt mg) (D0 : DrawD P w K mg base 3) (MX : MixedD P w K mg base 4) {n k : Nat} (hk : 4 ≤ k) (FD : FormD P w K mg base n k) : FillingD P w K mg base n (k + 1) := by
  refine dfn_of F hm scFilling hb (fun i => rfl) fun cdv A outer s H0 E i M Q hp hr kq => ?_
  obtain ⟨ad, b, cs, ts⟩ := i
  obtain ⟨ok, nd, le, tsok⟩ := hp
  dsimp only at ok nd le tsok kq
  have hu := hu_of hr
  have hr4 : Room 4 _ := hr.mono hk
  have sgs : signs (strOf cs) = cs.map sg := rfl
  have hmm : mixF [] b (cs.map fun c => D.str (sg c)) = ((mixF [] b cs).1.map (fun c => D.str (sg c)), (mixF [] b cs).2) := mixF_map (fun c => D.str (sg c)) cs [] b
  have hmix := mixF_ok cs ok (acc := [])
  have hperm : (mixF [] b cs).1.Perm cs := by simpa using mixF_perm cs [] b
  refine at_setD0 4 (fun q nq => ?_) scFilling.nd
  refine at_for (α := fun _ => Unit) (ds := (mixF [] b cs).1.map fun c => D.str (sg c)) (fun _ _ => True) (fun i _ => [some (.ref ad), some (.str (strOf cs)), some (.str (strOf ts)), some (.int (n : Int)), some (.ref q), none])
    (fun i _ => [(q, .dic (filF ts n ([], (mixF [] b cs).2) ((mixF [] b cs).1.take i)).1.k ((filF ts n ([], (mixF [] b cs).2) ((mixF [] b cs).1.take i)).1.v Fm.d)), (ad, (filF ts n ([], (mixF [] b cs).2) ((mixF [] b cs).1.take i)).2.c)])
    (EI.eq (ei_list (EE.eq (e_call1 MX hr4 (a_cons (e_name 0 rfl) (a_cons (e_bty (kd_listS (by show cs.toArray.size ≤ 100000; simp; omega)) (a_cons (e_name 1 rfl) a_nil) B.list) a_nil)) (⟨ad, b, cs.map fun c => D.str (sg c)⟩ : MxI) (MxI.Pre.mk ok (by show (cs.map fun c => D.str (sg c)).length ≤ 1000; rw [List.length_map]; omega)) (by rw [sgs]; simp) rfl rfl (.there .here)) rfl)) (by rw [hmm])) (ltg_name 5 scFilling.nd) (fun _ _ => trivial) () trivial rfl (by rw [hmm]; rfl) (fun _ _ _ => rfl) (fun i d u H1 hd _ => ?_) fun u _ => ?_
  · obtain ⟨c, hc, rfl⟩ : ∃ c, (mixF [] b cs).1[i]? = some c ∧ d = .str (sg c) := by
      rw [List.getElem?_map] at hd
      cases h : (mixF [] b cs).1[i]? with
      | none => rw [h] at hd; cases hd
      | some c => rw [h] at hd; exact ⟨c, rfl, (Option.some.inj hd).symm⟩
    have ht := filF_take (ts := ts) (n := n) (s := ([], (mixF [] b cs).2)) hc
    have hok := filF_ok (ts := ts) (n := n) ((mixF [] b cs).1.take i) (s := ([], (mixF [] b cs).2)) hmix
    have hlen := filF_len (ts := ts) (n := n) ((mixF [] b cs).1.take i) (s := ([], (mixF [] b cs).2))
    have hnew : (Sum.inr (sg c) : Key) ∉ (filF ts n ([], (mixF [] b cs).2) ((mixF [] b cs).1.take i)).1.k := fun z => by
      obtain ⟨p, hp, he⟩ := List.mem_map.mp z
      have he := sgK_inj.mp he
      rcases filF_mem _ p hp with h | ⟨h, _⟩
      · cases h
      · have nd2 : (mixF [] b cs).1.Nodup := hperm.nodup_iff.mpr nd
        obtain ⟨j, hj, hj2⟩ := List.mem_iff_getElem.mp h
        have hjm : j < min i (mixF [] b cs).1.length := by rw [List.length_take] at hj; exact hj
        have hji : j < i := by omega
        have h3 : (mixF [] b cs).1[j]? = some c := by
          rw [List.getElem_take] at hj2
          rw [List.getElem?_eq_getElem (by omega : j < (mixF [] b cs).1.length), hj2, he]
        have hil : i < (mixF [] b cs).1.length := by
          cases Nat.lt_or_ge i (mixF [] b cs).1.length with
          | inl z => exact z
          | inr z => rw [List.getElem?_eq_none z] at hc; cases hc
        have := (List.getElem?_inj (by omega : j < (mixF [] b cs).1.length) nd2).mp (h3.trans hc.symm)
        omega
    have hml : (mixF [] b cs).1.length ≤ 60 := by rw [hperm.length_eq]; exact le
    generalize filF ts n ([], (mixF [] b cs).2) ((mixF [] b cs).1.take i) = S at ht hok hlen hnew
    obtain ⟨g, B1⟩ := S
    dsimp only at ht hok hlen hnew ⊢
    refine at_if (b0 := decide (0 < (draw B1 4).1)) (cs1 := [(q, .dic g.k (g.v Fm.d)), (ad, (draw B1 4).2.c)]) (t_cmp (e_draw D0 (hr4.mono (by decide)) (e_name 0 rfl) e_int (.there .here) hok (by decide)) e_int cd_gt) (fun h => ?_) (fun h => ?_)
    · have h' : 0 < (draw B1 4).1 := by simpa using h
      have hf1 : fil1 ts n (g, B1) c = (g ++ [(c, (formF n (draw B1 4).2 ts).1)], (formF n (draw B1 4).2 ts).2) := if_pos h'
      rw [hf1] at ht
      refine at_dputN (d := (formF n (draw B1 4).2 ts).1.d) (s := sg c) (cs1 := [(q, .dic g.k (g.v Fm.d)), (ad, (formF n (draw B1 4).2 ts).2.c)]) (e_form FD hr (e_name 0 rfl) (e_name 2 rfl) (e_name 3 rfl) rfl (.there .here) (draw_ok hok 4) tsok) (e_name 4 rfl) (e_name 5 rfl) .here hnew (by
        have : g.k.length = g.length := by simp [Fil.k]
        rw [this]
        simp only [List.length_nil, List.length_take] at hlen
        omega) hu ?_
      refine at_nil (at_nil (at_go (at_inv (e := [some (.ref ad), some (.str (strOf cs)), some (.str (strOf ts)), some (.int (n : Int)), some (.ref q), none]) () trivial rfl rfl) (by walk_at "le") ?_))
      rw [ht]
      simp [Fil.k, Fil.v]
    · have h' : ¬ 0 < (draw B1 4).1 := by simpa using h
      have hf1 : fil1 ts n (g, B1) c = (g, (draw B1 4).2) := if_neg h'
      rw [hf1] at ht
      refine at_nil (at_nil (at_go (at_inv (e := [some (.ref ad), some (.str (strOf cs)), some (.str (strOf ts)), some (.int (n : Int)), some (.ref q), none]) () trivial rfl rfl) (by walk_at "le") ?_))
      rw [ht]
  · have hl : ((mixF [] b cs).1.map fun c => D.str (sg c)).length = (mixF [] b cs).1.length := List.length_map ..
    rw [hl, List.take_length]
    refine at_pure 4 rfl nq ?_
    exact at_end (d := (fillF b cs ts n).1.dict Fm.d) (e_name 4 rfl) rfl (.head _) kq
end
end Od

set_option Elab.async false
set_option linter.all false
set_option maxRecDepth 100000
set_option maxHeartbeats 4000000
namespace Od
open PySem L2 TL PySem.Spec
abbrev sSame : Stmt := top 28
local macro_rules
  | `(tactic| walk_at "bd") => `(tactic| first | exact bd_add | exact bd_sub | exact bd_mulR (by decide) | exact bd_mulL (by decide) | exact bd_mod (by decide) | exact bd_div (by decide))
local macro_rules
  | `(tactic| walk_at "cd") => `(tactic| first | exact cd_lt | exact cd_le | exact cd_gt | exact cd_ge | exact cd_eqI | exact cd_eqS | exact cd_eqB)
local macro_rules
  | `(tactic| walk_at "le") => `(tactic| repeat (first | exact LeD.nil | apply LeD.drop | apply LeD.same))
/-- plain data, n lists deep -/
def plD : Nat → D → Prop
  | _, .non => True
  | _, .bl _ => True
  | _, .int _ => True
  | _, .str _ => True
  | n + 1, .lst ds => ds.length ≤ 1000 ∧ ∀ d ∈ ds, plD n d
  | n + 1, .tup ds => ds.length ≤ 1000 ∧ ∀ d ∈ ds, plD n d
  | _, _ => False
section
variable {P : Program} {w : World} {K : PySem.W.Frag} {mg : Str → Option Value} {base : Heap}
abbrev SameD (P : Program) (w : World) (K : PySem.W.Frag) (mg : Str → Option Value) (base : Heap) (n k : Nat) : Prop := Dfn P w K mg base "_law_same" k (puSp K mg (fun d : D => plD n d) (fun d => [d, d]) (fun _ => .bl true))
theorem scSame : FnScope ["_law_found", "_law_due", "_law_a", "_law_b"] ["_law_found", "_law_due"] (defScope sSame) := ⟨rfl, rfl, rfl, by decide +kernel, rfl, by decide +kernel, by decide +kernel⟩
theorem pairs_self (ds : List D) : pairs ds ds = ds.map fun d => .tup [d, d] := by
  induction ds with
  | nil => rfl
  | cons d ds ih => simp [pairs, ih]
theorem same_int {f : Addr} {cdv : Value} {A : Around} {outer : List Env} {s : Shared} {H0 : Hp} {E : XK} {M : Addr → Prop} {Q : VK} (B : Blt mg) (i : Int)
    (kq : ∀ v H', (∀ a, M a → H' a ≠ none) → Ext (dom []) H0 H' → (∀ p ∈ ([] : Cs), M p.1 ∧ Cell K mg M H' p.1 p.2) → R K mg M H' v (.bl true) → Q v H') :
    At (cxOf (L2.CX P w) P w K mg base ["_law_found", "_law_due", "_law_a", "_law_b"] "_law_same" (defScope sSame) f cdv A outer s H0 E) M [some (.int i), some (.int i), none, none] [] [(dom [], H0)]
      (wSs (cxOf (L2.CX P w) P w K mg base ["_law_found", "_law_due", "_law_a", "_law_b"] "_law_same" (defScope sSame) f cdv A outer s H0 E) (defBody sSame) { nx := fun _ H' => Q .non H', rt := Q }) := by
  refine at_if (t_val (e_blt (kd_isiT (t := "int") (n1 := "list") (n2 := "tuple") (b1 := false) (b2 := false) rfl (by decide +kernel) (by decide +kernel)) (a_cons (e_name 1 rfl) (a_cons (e_tup (a_cons (e_gty (t := "list") B.list) (a_cons (e_gty (t := "tuple") B.tuple) a_nil))) a_nil)) B.isinstance)) (fun h => by cases h) fun _ => at_nil ?_
  refine at_if (t_ew (t_or (t_isN (e_name 1 rfl)) fun _ => t_or1 (t_isN (e_name 0 rfl)))) (fun h => by cases h) fun _ => at_nil ?_
  refine at_if (t_ew (t_or (t_cmp (e_blt (kd_isi (t := "int") (n := "bool") (b := false) rfl (by decide +kernel)) (a_cons (e_name 1 rfl) (a_cons (e_gty (t := "bool") B.bool) a_nil)) B.isinstance) (e_blt (kd_isi (t := "int") (n := "bool") (b := false) rfl (by decide +kernel)) (a_cons (e_name 0 rfl) (a_cons (e_gty (t := "bool") B.bool) a_nil)) B.isinstance) cd_neB) fun _ => t_or1 (t_cmp (e_blt (kd_isi (t := "int") (n := "int") (b := true) rfl (by decide +kernel)) (a_cons (e_name 1 rfl) (a_cons (e_gty (t := "int") B.int) a_nil)) B.isinstance) (e_blt (kd_isi (t := "int") (n := "int") (b := true) rfl (by decide +kernel)) (a_cons (e_name 0 rfl) (a_cons (e_gty (t := "int") B.int) a_nil)) B.isinstance) cd_neB))) (fun h => by cases h) fun _ => at_nil ?_
  exact at_end (e_and (p0 := true) (q0 := true) (e_cmp (e_blt (kd_isi (t := "int") (n := "str") (b := false) rfl (by decide +kernel)) (a_cons (e_name 1 rfl) (a_cons (e_gty (t := "str") B.str) a_nil)) B.isinstance) (e_blt (kd_isi (t := "int") (n := "str") (b := false) rfl (by decide +kernel)) (a_cons (e_name 0 rfl) (a_cons (e_gty (t := "str") B.str) a_nil)) B.isinstance) cd_eqB) fun _ => e_one (EE.eq (e_cmp (e_name 0 rfl) (e_name 1 rfl) (by walk_at "cd")) (by simp))) rfl (.head _) kq
theorem same_bool {f : Addr} {cdv : Value} {A : Around} {outer : List Env} {s : Shared} {H0 : Hp} {E : XK} {M : Addr → Prop} {Q : VK} (B : Blt mg) (i : Bool)
    (kq : ∀ v H', (∀ a, M a → H' a ≠ none) → Ext (dom []) H0 H' → (∀ p ∈ ([] : Cs), M p.1 ∧ Cell K mg M H' p.1 p.2) → R K mg M H' v (.bl true) → Q v H') :
    At (cxOf (L2.CX P w) P w K mg base ["_law_found", "_law_due", "_law_a", "_law_b"] "_law_same" (defScope sSame) f cdv A outer s H0 E) M [some (.bl i), some (.bl i), none, none] [] [(dom [], H0)]
      (wSs (cxOf (L2.CX P w) P w K mg base ["_law_found", "_law_due", "_law_a", "_law_b"] "_law_same" (defScope sSame) f cdv A outer s H0 E) (defBody sSame) { nx := fun _ H' => Q .non H', rt := Q }) := by
  refine at_if (t_val (e_blt (kd_isiT (t := "bool") (n1 := "list") (n2 := "tuple") (b1 := false) (b2 := false) rfl (by decide +kernel) (by decide +kernel)) (a_cons (e_name 1 rfl) (a_cons (e_tup (a_cons (e_gty (t := "list") B.list) (a_cons (e_gty (t := "tuple") B.tuple) a_nil))) a_nil)) B.isinstance)) (fun h => by cases h) fun _ => at_nil ?_
  refine at_if (t_ew (t_or (t_isN (e_name 1 rfl)) fun _ => t_or1 (t_isN (e_name 0 rfl)))) (fun h => by cases h) fun _ => at_nil ?_
  refine at_if (t_ew (t_or (t_cmp (e_blt (kd_isi (t := "bool") (n := "bool") (b := true) rfl (by decide +kernel)) (a_cons (e_name 1 rfl) (a_cons (e_gty (t := "bool") B.bool) a_nil)) B.isinstance) (e_blt (kd_isi (t := "bool") (n := "bool") (b := true) rfl (by decide +kernel)) (a_cons (e_name 0 rfl) (a_cons (e_gty (t := "bool") B.bool) a_nil)) B.isinstance) cd_neB) fun _ => t_or1 (t_cmp (e_blt (kd_isi (t := "bool") (n := "int") (b := true) rfl (by decide +kernel)) (a_cons (e_name 1 rfl) (a_cons (e_gty (t := "int") B.int) a_nil)) B.isinstance) (e_blt (kd_isi (t := "bool") (n := "int") (b := true) rfl (by decide +kernel)) (a_cons (e_name 0 rfl) (a_cons (e_gty (t := "int") B.int) a_nil)) B.isinstance) cd_neB))) (fun h => by cases h) fun _ => at_nil ?_
  exact at_end (e_and (p0 := true) (q0 := true) (e_cmp (e_blt (kd_isi (t := "bool") (n := "str") (b := false) rfl (by decide +kernel)) (a_cons (e_name 1 rfl) (a_cons (e_gty (t := "str") B.str) a_nil)) B.isinstance) (e_blt (kd_isi (t := "bool") (n := "str") (b := false) rfl (by decide +kernel)) (a_cons (e_name 0 rfl) (a_cons (e_gty (t := "str") B.str) a_nil)) B.isinstance) cd_eqB) fun _ => e_one (EE.eq (e_cmp (e_name 0 rfl) (e_name 1 rfl) (by walk_at "cd")) (by simp))) rfl (.head _) kq
theorem same_str {f : Addr} {cdv : Value} {A : Around} {outer : List Env} {s : Shared} {H0 : Hp} {E : XK} {M : Addr → Prop} {Q : VK} (B : Blt mg) (i : Str)
    (kq : ∀ v H', (∀ a, M a → H' a ≠ none) → Ext (dom []) H0 H' → (∀ p ∈ ([] : Cs), M p.1 ∧ Cell K mg M H' p.1 p.2) → R K mg M H' v (.bl true) → Q v H') :
    At (cxOf (L2.CX P w) P w K mg base ["_law_found", "_law_due", "_law_a", "_law_b"] "_law_same" (defScope sSame) f cdv A outer s H0 E) M [some (.str i), some (.str i), none, none] [] [(dom [], H0)]
      (wSs (cxOf (L2.CX P w) P w K mg base ["_law_found", "_law_due", "_law_a", "_law_b"] "_law_same" (defScope sSame) f cdv A outer s H0 E) (defBody sSame) { nx := fun _ H' => Q .non H', rt := Q }) := by
  refine at_if (t_val (e_blt (kd_isiT (t := "str") (n1 := "list") (n2 := "tuple") (b1 := false) (b2 := false) rfl (by decide +kernel) (by decide +kernel)) (a_cons (e_name 1 rfl) (a_cons (e_tup (a_cons (e_gty (t := "list") B.list) (a_cons (e_gty (t := "tuple") B.tuple) a_nil))) a_nil)) B.isinstance)) (fun h => by cases h) fun _ => at_nil ?_
  refine at_if (t_ew (t_or (t_isN (e_name 1 rfl)) fun _ => t_or1 (t_isN (e_name 0 rfl)))) (fun h => by cases h) fun _ => at_nil ?_
  refine at_if (t_ew (t_or (t_cmp (e_blt (kd_isi (t := "str") (n := "bool") (b := false) rfl (by decide +kernel)) (a_cons (e_name 1 rfl) (a_cons (e_gty (t := "bool") B.bool) a_nil)) B.isinstance) (e_blt (kd_isi (t := "str") (n := "bool") (b := false) rfl (by decide +kernel)) (a_cons (e_name 0 rfl) (a_cons (e_gty (t := "bool") B.bool) a_nil)) B.isinstance) cd_neB) fun _ => t_or1 (t_cmp (e_blt (kd_isi (t := "str") (n := "int") (b := false) rfl (by decide +kernel)) (a_cons (e_name 1 rfl) (a_cons (e_gty (t := "int") B.int) a_nil)) B.isinstance) (e_blt (kd_isi (t := "str") (n := "int") (b := false) rfl (by decide +kernel)) (a_cons (e_name 0 rfl) (a_cons (e_gty (t := "int") B.int) a_nil)) B.isinstance) cd_neB))) (fun h => by cases h) fun _ => at_nil ?_
  exact at_end (e_and (p0 := true) (q0 := true) (e_cmp (e_blt (kd_isi (t := "str") (n := "str") (b := true) rfl (by decide +kernel)) (a_cons (e_name 1 rfl) (a_cons (e_gty (t := "str") B.str) a_nil)) B.isinstance) (e_blt (kd_isi (t := "str") (n := "str") (b := true) rfl (by decide +kernel)) (a_cons (e_name 0 rfl) (a_cons (e_gty (t := "str") B.str) a_nil)) B.isinstance) cd_eqB) fun _ => e_one (EE.eq (e_cmp (e_name 0 rfl) (e_name 1 rfl) (by walk_at "cd")) (by simp))) rfl (.head _) kq
theorem same_non {f : Addr} {cdv : Value} {A : Around} {outer : List Env} {s : Shared} {H0 : Hp} {E : XK} {M : Addr → Prop} {Q : VK} (B : Blt mg)
    (kq : ∀ v H', (∀ a, M a → H' a ≠ none) → Ext (dom []) H0 H' → (∀ p ∈ ([] : Cs), M p.1 ∧ Cell K mg M H' p.1 p.2) → R K mg M H' v (.bl true) → Q v H') :
    At (cxOf (L2.CX P w) P w K mg base ["_law_found", "_law_due", "_law_a", "_law_b"] "_law_same" (defScope sSame) f cdv A outer s H0 E) M [some .non, some .non, none, none] [] [(dom [], H0)]
      (wSs (cxOf (L2.CX P w) P w K mg base ["_law_found", "_law_due", "_law_a", "_law_b"] "_law_same" (defScope sSame) f cdv A outer s H0 E) (defBody sSame) { nx := fun _ H' => Q .non H', rt := Q }) := by
  refine at_if (t_val (e_blt (kd_isiT (t := "NoneType") (n1 := "list") (n2 := "tuple") (b1 := false) (b2 := false) rfl (by decide +kernel) (by decide +kernel)) (a_cons (e_name 1 rfl) (a_cons (e_tup (a_cons (e_gty (t := "list") B.list) (a_cons (e_gty (t := "tuple") B.tuple) a_nil))) a_nil)) B.isinstance)) (fun h => by cases h) fun _ => at_nil ?_
  refine at_if (t_ew (t_or (t_isN (e_name 1 rfl)) fun _ => t_or1 (t_isN (e_name 0 rfl)))) (fun _ => ?_) (fun h => by cases h)
  exact at_end (e_and (p0 := true) (q0 := true) (EE.eq (x := .bl (isNonD .non)) (e_isN (e_name 1 rfl)) rfl) fun _ => e_one (EE.eq (x := .bl (isNonD .non)) (e_isN (e_name 0 rfl)) rfl)) rfl (.head _) kq
theorem ok_same {f : Addr} {fd : FuncData} (F : Fun K "_law_same" "_law_same" sSame f fd) (hm : mg "_law_same" = some (.ref f)) (hb : Binds K fd ["_law_found", "_law_due"] []) (B : Blt mg) : ∀ n, SameD P w K mg base n (3 + n) := by
  intro n
  induction n with
  | zero =>
    refine dfn_of F hm scSame hb (fun i => rfl) fun cdv A outer s H0 E d M Q hp hr kq => ?_
    cases d with
    | non => exact same_non B kq
    | bl i => exact same_bool B i kq
    | int i => exact same_int B i kq
    | str i => exact same_str B i kq
    | _ => exact hp.elim
  | succ n ih =>
    refine dfn_of F hm scSame hb (fun i => rfl) fun cdv A outer s H0 E d M Q hp hr kq => ?_
    cases d with
    | non => exact same_non B kq
    | bl i => exact same_bool B i kq
    | int i => exact same_int B i kq
    | str i => exact same_str B i kq
    | lst ds =>
      obtain ⟨hl, ha⟩ := hp
      refine at_if (t_val (e_blt (kd_isiT (t := "list") (n1 := "list") (n2 := "tuple") (b1 := true) (b2 := false) rfl (by decide +kernel) (by decide +kernel)) (a_cons (e_name 1 rfl) (a_cons (e_tup (a_cons (e_gty (t := "list") B.list) (a_cons (e_gty (t := "tuple") B.tuple) a_nil))) a_nil)) B.isinstance)) (fun _ => ?_) (fun h => by cases h)
      refine at_if (t_ew (t_or (t_cmp (e_blt (kd_isi (t := "list") (n := "list") (b := true) rfl (by decide +kernel)) (a_cons (e_name 0 rfl) (a_cons (e_gty (t := "list") B.list) a_nil)) B.isinstance) (e_blt (kd_isi (t := "list") (n := "list") (b := true) rfl (by decide +kernel)) (a_cons (e_name 1 rfl) (a_cons (e_gty (t := "list") B.list) a_nil)) B.isinstance) cd_neB) fun _ => t_or1 (t_cmp (e_blt (kd_isi (t := "list") (n := "tuple") (b := false) rfl (by decide +kernel)) (a_cons (e_name 0 rfl) (a_cons (e_gty (t := "tuple") B.tuple) a_nil)) B.isinstance) (e_blt (kd_isi (t := "list") (n := "tuple") (b := false) rfl (by decide +kernel)) (a_cons (e_name 1 rfl) (a_cons (e_gty (t := "tuple") B.tuple) a_nil)) B.isinstance) cd_neB))) (fun h => by cases h) fun _ => at_nil ?_
      refine at_end (e_and (p0 := true) (q0 := true) (EE.eq (e_cmp (e_blt kd_lenL (a_cons (e_name 0 rfl) a_nil) B.len) (e_blt kd_lenL (a_cons (e_name 1 rfl) a_nil) B.len) cd_eqI) (by simp)) fun _ => e_one (EE.eq (e_blt (kd_all (bs := ds.map fun _ => true)) (a_cons (EE.eq (e_lcM [("_law_a", 2), ("_law_b", 3)] ds (fun d => .tup [d, d]) (fun _ => D.bl true) (EI.eq (ei_zip (e_name 0 rfl) (e_name 1 rfl) B.zip) (pairs_self ds))
        (ctg_pair 2 3 scSame.nd (by decide) (by decide) rfl rfl) (fun d _ => ⟨d, d, rfl⟩) (Nat.le_trans hl (by decide))
        (fun d hd M' hM s2 H2 C2 cl2 fp2 => EE.eq (e_call ih hr (a_cons (e_name 2 rfl) (a_cons (e_name 3 rfl) a_nil)) d (ha d hd) rfl) rfl) (blkOk_by rfl) scSame.nd) (by simp)) a_nil) B.all) (by simp))) rfl (.head _) kq
    | tup ds =>
      obtain ⟨hl, ha⟩ := hp
      refine at_if (t_val (e_blt (kd_isiT (t := "tuple") (n1 := "list") (n2 := "tuple") (b1 := false) (b2 := true) rfl (by decide +kernel) (by decide +kernel)) (a_cons (e_name 1 rfl) (a_cons (e_tup (a_cons (e_gty (t := "list") B.list) (a_cons (e_gty (t := "tuple") B.tuple) a_nil))) a_nil)) B.isinstance)) (fun _ => ?_) (fun h => by cases h)
      refine at_if (t_ew (t_or (t_cmp (e_blt (kd_isi (t := "tuple") (n := "list") (b := false) rfl (by decide +kernel)) (a_cons (e_name 0 rfl) (a_cons (e_gty (t := "list") B.list) a_nil)) B.isinstance) (e_blt (kd_isi (t := "tuple") (n := "list") (b := false) rfl (by decide +kernel)) (a_cons (e_name 1 rfl) (a_cons (e_gty (t := "list") B.list) a_nil)) B.isinstance) cd_neB) fun _ => t_or1 (t_cmp (e_blt (kd_isi (t := "tuple") (n := "tuple") (b := true) rfl (by decide +kernel)) (a_cons (e_name 0 rfl) (a_cons (e_gty (t := "tuple") B.tuple) a_nil)) B.isinstance) (e_blt (kd_isi (t := "tuple") (n := "tuple") (b := true) rfl (by decide +kernel)) (a_cons (e_name 1 rfl) (a_cons (e_gty (t := "tuple") B.tuple) a_nil)) B.isinstance) cd_neB))) (fun h => by cases h) fun _ => at_nil ?_
      refine at_end (e_and (p0 := true) (q0 := true) (EE.eq (e_cmp (e_blt kd_lenT (a_cons (e_name 0 rfl) a_nil) B.len) (e_blt kd_lenT (a_cons (e_name 1 rfl) a_nil) B.len) cd_eqI) (by simp)) fun _ => e_one (EE.eq (e_blt (kd_all (bs := ds.map fun _ => true)) (a_cons (EE.eq (e_lcM [("_law_a", 2), ("_law_b", 3)] ds (fun d => .tup [d, d]) (fun _ => D.bl true) (EI.eq (ei_zipT (e_name 0 rfl) (e_name 1 rfl) B.zip) (pairs_self ds))
        (ctg_pair 2 3 scSame.nd (by decide) (by decide) rfl rfl) (fun d _ => ⟨d, d, rfl⟩) (Nat.le_trans hl (by decide))
        (fun d hd M' hM s2 H2 C2 cl2 fp2 => EE.eq (e_call ih hr (a_cons (e_name 2 rfl) (a_cons (e_name 3 rfl) a_nil)) d (ha d hd) rfl) rfl) (blkOk_by rfl) scSame.nd) (by simp)) a_nil) B.all) (by simp))) rfl (.head _) kq
    | _ => exact hp.elim
end
end Od

set_option Elab.async false
set_option linter.all false
set_option maxRecDepth 100000
set_option maxHeartbeats 4000000
namespace Od
open PySem L2 TL PySem.Spec
local macro_rules
  | `(tactic| walk_at "bd") => `(tactic| first | exact bd_add | exact bd_sub | exact bd_mulR (by decide) | exact bd_mulL (by decide) | exact bd_mod (by decide) | exact bd_div (by decide))
local macro_rules
  | `(tactic| walk_at "cd") => `(tactic| first | exact cd_lt | exact cd_le | exact cd_gt | exact cd_ge | exact cd_eqI | exact cd_eqS | exact cd_eqB)
local macro_rules
  | `(tactic| walk_at "le") => `(tactic| repeat (first | exact LeD.nil | apply LeD.drop | apply LeD.same))
/-- plain data and formulas, n lists deep -/
def pfD : Nat → D → Prop
  | _, .non => True
  | _, .bl _ => True
  | _, .int _ => True
  | _, .str _ => True
  | n + 1, .lst ds => ds.length ≤ 1000 ∧ ∀ d ∈ ds, pfD n d
  | n + 1, .tup ds => ds.length ≤ 1000 ∧ ∀ d ∈ ds, pfD n d
  | _, .obj c ns ds => ∃ f : Fm, D.obj c ns ds = f.o
  | _, _ => False
section
variable {P : Program} {w : World} {K : PySem.W.Frag} {mg : Str → Option Value} {base : Heap}
abbrev SameFD (P : Program) (w : World) (K : PySem.W.Frag) (mg : Str → Option Value) (base : Heap) (n k : Nat) : Prop := Dfn P w K mg base "_law_same" k (puSp K mg (fun d : D => pfD n d) (fun d => [d, d]) (fun _ => .bl true))
/-- what isinstance tells of formulas -/
structure SameF (K : PySem.W.Frag) (C : Addr) : Prop where
  l : PySem.W.kitOne K (.ref C) (.type "list") = some false
  t : PySem.W.kitOne K (.ref C) (.type "tuple") = some false
  b : PySem.W.kitOne K (.ref C) (.type "bool") = some false
  i : PySem.W.kitOne K (.ref C) (.type "int") = some false
  s : PySem.W.kitOne K (.ref C) (.type "str") = some false
  nf : PySem.W.notFirst K C (.ref C) = true
theorem kd_isiOT {X : Cx} {n1 n2 : String} {b1 b2 : Bool} {cn : Str} {ns : List Str} {ds : List D} {C : Addr} (hm : X.mg cn = some (.ref C)) (I : ClsI X.K C) (q1 : PySem.W.kitOne X.K (.ref C) (.type n1) = some b1) (q2 : PySem.W.kitOne X.K (.ref C) (.type n2) = some b2) : CalD X (.builtin "isinstance") [.obj cn ns ds, .tup [.ty n1, .ty n2]] (.bl (b1 || b2)) := ⟨_, CallR.or call_isiT call_isiK, fun M H vs Q mt hv k => by
    obtain ⟨v, u, rfl, r1, r2⟩ := rs2 hv
    unfold R at r2
    obtain ⟨a, xs, rfl, ha, rr⟩ := r2
    obtain ⟨w1, w2, rfl, g1, g2⟩ := rs2 rr
    simp only [R] at g1 g2
    subst g1 g2
    have any2 : PySem.W.kitAny X.K (.ref C) [.type n1, .type n2] = some (b1 || b2) := by
      refine kitAny_cons q1 (fun e => ?_) fun e => by rw [e]; rfl
      subst e
      refine kitAny_cons q2 (fun e => ?_) fun e => by rw [e]; rfl
      subst e
      exact kitAny_nil
    rcases ha with ⟨_, ha⟩ | ⟨⟨oc, dd, dt, sl⟩, its, n, k1, k2, k3, k4, k5⟩
    · exact .inl ⟨v, a, _, .ref C, [.type n1, .type n2], _, rfl, ha, .cons (.ty _) (.cons (.ty _) .nil), tyx_obj hm I r1, any2, k _ H (Ext.refl _ _) (by simp [R])⟩
    · simp only at k2 k3
      subst k2 k3
      have e5 : its.toList = [.type n1, .type n2] := by
        cases its with
        | mk l =>
          simp only at k5
          cases k5 with
          | cons a1 k6 =>
            cases k6 with
            | cons a2 k7 =>
              cases k7
              rw [show _ = _ from a1, show _ = _ from a2]
      refine .inr ⟨v, a, dd, its.toList, n, sl, .ref C, _, rfl, by simpa using k1, tyx_obj hm I r1, by rw [e5]; exact any2, k _ H (Ext.refl _ _) (by simp [R])⟩⟩
theorem same_obj {f : Addr} {cdv : Value} {A : Around} {outer : List Env} {s : Shared} {H0 : Hp} {E : XK} {M : Addr → Prop} {Q : VK} {C : Addr} (B : Blt mg) (T : FmT w K mg C) (SF : SameF K C) (EQ : EqD P w K mg base 2) (hr : Room 4 (A.deeper (PyProof.Rows.envOfC "_law_same" (defScope sSame) s.heap.objs.size f cdv))) {c : Str} {ns : List Str} {ds : List D} (g : Fm) (hg : D.obj c ns ds = g.o)
    (kq : ∀ v H', (∀ a, M a → H' a ≠ none) → Ext (dom []) H0 H' → (∀ p ∈ ([] : Cs), M p.1 ∧ Cell K mg M H' p.1 p.2) → R K mg M H' v (.bl true) → Q v H') :
    At (cxOf (L2.CX P w) P w K mg base ["_law_found", "_law_due", "_law_a", "_law_b"] "_law_same" (defScope sSame) f cdv A outer s H0 E) M [some (.obj c ns ds), some (.obj c ns ds), none, none] [] [(dom [], H0)]
      (wSs (cxOf (L2.CX P w) P w K mg base ["_law_found", "_law_due", "_law_a", "_law_b"] "_law_same" (defScope sSame) f cdv A outer s H0 E) (defBody sSame) { nx := fun _ H' => Q .non H', rt := Q }) := by
  rw [hg]
  have eo := g.o_eq
  refine at_if (t_val (e_blt (kd_isiOT (n1 := "list") (n2 := "tuple") T.hm T.ci SF.l SF.t) (a_cons ((e_name 1 rfl).eq eo) (a_cons (e_tup (a_cons (e_gty (t := "list") B.list) (a_cons (e_gty (t := "tuple") B.tuple) a_nil))) a_nil)) B.isinstance)) (fun h => by cases h) fun _ => at_nil ?_
  refine at_if (b0 := false) (cs1 := []) (ET.eq (t_ew (t_or (t_isN ((e_name 1 rfl).eq eo)) fun _ => t_or1 (t_isN ((e_name 0 rfl).eq eo)))) rfl) (fun h => by cases h) fun _ => at_nil ?_
  refine at_if (b0 := false) (cs1 := []) (ET.eq (t_ew (t_or (t_cmp (e_blt (kd_isiO T.hm T.ci SF.b) (a_cons ((e_name 1 rfl).eq eo) (a_cons (e_gty (t := "bool") B.bool) a_nil)) B.isinstance) (e_blt (kd_isiO T.hm T.ci SF.b) (a_cons ((e_name 0 rfl).eq eo) (a_cons (e_gty (t := "bool") B.bool) a_nil)) B.isinstance) cd_neB) fun _ => t_or1 (t_cmp (e_blt (kd_isiO T.hm T.ci SF.i) (a_cons ((e_name 1 rfl).eq eo) (a_cons (e_gty (t := "int") B.int) a_nil)) B.isinstance) (e_blt (kd_isiO T.hm T.ci SF.i) (a_cons ((e_name 0 rfl).eq eo) (a_cons (e_gty (t := "int") B.int) a_nil)) B.isinstance) cd_neB))) rfl) (fun h => by cases h) fun _ => at_nil ?_
  exact at_end (e_and (p0 := true) (q0 := true) (e_cmp (e_blt (kd_isiO T.hm T.ci SF.s) (a_cons ((e_name 1 rfl).eq eo) (a_cons (e_gty (t := "str") B.str) a_nil)) B.isinstance) (e_blt (kd_isiO T.hm T.ci SF.s) (a_cons ((e_name 0 rfl).eq eo) (a_cons (e_gty (t := "str") B.str) a_nil)) B.isinstance) cd_eqB) fun _ => e_one (EE.eq (e_cmp ((e_name 0 rfl).eq eo) ((e_name 1 rfl).eq eo) (cd_own (cn := "Formula") (ns := fnames) (ds := g.fs) (es' := g.fs) EQ (fun C' h => by
    have h1 : mg "Formula" = some (.ref C') := h
    have h2 := T.hm.symm.trans h1
    cases h2
    exact SF.nf) (hr.mono (by decide)) (g, g) trivial (by rw [g.o_eq]) rfl)) (by simp))) rfl (.head _) kq
theorem ok_sameF {f : Addr} {fd : FuncData} (F : Fun K "_law_same" "_law_same" sSame f fd) (hm : mg "_law_same" = some (.ref f)) (hb : Binds K fd ["_law_found", "_law_due"] []) {C : Addr} (B : Blt mg) (T : FmT w K mg C) (SF : SameF K C) (EQ : EqD P w K mg base 2) : ∀ n, SameFD P w K mg base n (5 + n) := by
  intro n
  induction n with
  | zero =>
    refine dfn_of F hm scSame hb (fun i => rfl) fun cdv A outer s H0 E d M Q hp hr kq => ?_
    cases d with
    | non => exact same_non B kq
    | bl i => exact same_bool B i kq
    | int i => exact same_int B i kq
    | str i => exact same_str B i kq
    | obj c ns ds =>
      obtain ⟨g, hg⟩ := hp
      exact same_obj B T SF EQ (hr.mono (by first | omega | (show 4 ≤ 5 + _; omega))) g hg kq
    | _ => exact hp.elim
  | succ n ih =>
    refine dfn_of F hm scSame hb (fun i => rfl) fun cdv A outer s H0 E d M Q hp hr kq => ?_
    cases d with
    | non => exact same_non B kq
    | bl i => exact same_bool B i kq
    | int i => exact same_int B i kq
    | str i => exact same_str B i kq
    | obj c ns ds =>
      obtain ⟨g, hg⟩ := hp
      exact same_obj B T SF EQ (hr.mono (by first | omega | (show 4 ≤ 5 + _; omega))) g hg kq
    | lst ds =>
      obtain ⟨hl, ha⟩ := hp
      refine at_if (t_val (e_blt (kd_isiT (t := "list") (n1 := "list") (n2 := "tuple") (b1 := true) (b2 := false) rfl (by decide +kernel) (by decide +kernel)) (a_cons (e_name 1 rfl) (a_cons (e_tup (a_cons (e_gty (t := "list") B.list) (a_cons (e_gty (t := "tuple") B.tuple) a_nil))) a_nil)) B.isinstance)) (fun _ => ?_) (fun h => by cases h)
      refine at_if (t_ew (t_or (t_cmp (e_blt (kd_isi (t := "list") (n := "list") (b := true) rfl (by decide +kernel)) (a_cons (e_name 0 rfl) (a_cons (e_gty (t := "list") B.list) a_nil)) B.isinstance) (e_blt (kd_isi (t := "list") (n := "list") (b := true) rfl (by decide +kernel)) (a_cons (e_name 1 rfl) (a_cons (e_gty (t := "list") B.list) a_nil)) B.isinstance) cd_neB) fun _ => t_or1 (t_cmp (e_blt (kd_isi (t := "list") (n := "tuple") (b := false) rfl (by decide +kernel)) (a_cons (e_name 0 rfl) (a_cons (e_gty (t := "tuple") B.tuple) a_nil)) B.isinstance) (e_blt (kd_isi (t := "list") (n := "tuple") (b := false) rfl (by decide +kernel)) (a_cons (e_name 1 rfl) (a_cons (e_gty (t := "tuple") B.tuple) a_nil)) B.isinstance) cd_neB))) (fun h => by cases h) fun _ => at_nil ?_
      refine at_end (e_and (p0 := true) (q0 := true) (EE.eq (e_cmp (e_blt kd_lenL (a_cons (e_name 0 rfl) a_nil) B.len) (e_blt kd_lenL (a_cons (e_name 1 rfl) a_nil) B.len) cd_eqI) (by simp)) fun _ => e_one (EE.eq (e_blt (kd_all (bs := ds.map fun _ => true)) (a_cons (EE.eq (e_lcM [("_law_a", 2), ("_law_b", 3)] ds (fun d => .tup [d, d]) (fun _ => D.bl true) (EI.eq (ei_zip (e_name 0 rfl) (e_name 1 rfl) B.zip) (pairs_self ds))
        (ctg_pair 2 3 scSame.nd (by decide) (by decide) rfl rfl) (fun d _ => ⟨d, d, rfl⟩) (Nat.le_trans hl (by decide))
        (fun d hd M' hM s2 H2 C2 cl2 fp2 => EE.eq (e_call ih hr (a_cons (e_name 2 rfl) (a_cons (e_name 3 rfl) a_nil)) d (ha d hd) rfl) rfl) (blkOk_by rfl) scSame.nd) (by simp)) a_nil) B.all) (by simp))) rfl (.head _) kq
    | tup ds =>
      obtain ⟨hl, ha⟩ := hp
      refine at_if (t_val (e_blt (kd_isiT (t := "tuple") (n1 := "list") (n2 := "tuple") (b1 := false) (b2 := true) rfl (by decide +kernel) (by decide +kernel)) (a_cons (e_name 1 rfl) (a_cons (e_tup (a_cons (e_gty (t := "list") B.list) (a_cons (e_gty (t := "tuple") B.tuple) a_nil))) a_nil)) B.isinstance)) (fun _ => ?_) (fun h => by cases h)
      refine at_if (t_ew (t_or (t_cmp (e_blt (kd_isi (t := "tuple") (n := "list") (b := false) rfl (by decide +kernel)) (a_cons (e_name 0 rfl) (a_cons (e_gty (t := "list") B.list) a_nil)) B.isinstance) (e_blt (kd_isi (t := "tuple") (n := "list") (b := false) rfl (by decide +kernel)) (a_cons (e_name 1 rfl) (a_cons (e_gty (t := "list") B.list) a_nil)) B.isinstance) cd_neB) fun _ => t_or1 (t_cmp (e_blt (kd_isi (t := "tuple") (n := "tuple") (b := true) rfl (by decide +kernel)) (a_cons (e_name 0 rfl) (a_cons (e_gty (t := "tuple") B.tuple) a_nil)) B.isinstance) (e_blt (kd_isi (t := "tuple") (n := "tuple") (b := true) rfl (by decide +kernel)) (a_cons (e_name 1 rfl) (a_cons (e_gty (t := "tuple") B.tuple) a_nil)) B.isinstance) cd_neB))) (fun h => by cases h) fun _ => at_nil ?_
      refine at_end (e_and (p0 := true) (q0 := true) (EE.eq (e_cmp (e_blt kd_lenT (a_cons (e_name 0 rfl) a_nil) B.len) (e_blt kd_lenT (a_cons (e_name 1 rfl) a_nil) B.len) cd_eqI) (by simp)) fun _ => e_one (EE.eq (e_blt (kd_all (bs := ds.map fun _ => true)) (a_cons (EE.eq (e_lcM [("_law_a", 2), ("_law_b", 3)] ds (fun d => .tup [d, d]) (fun _ => D.bl true) (EI.eq (ei_zipT (e_name 0 rfl) (e_name 1 rfl) B.zip) (pairs_self ds))
        (ctg_pair 2 3 scSame.nd (by decide) (by decide) rfl rfl) (fun d _ => ⟨d, d, rfl⟩) (Nat.le_trans hl (by decide))
        (fun d hd M' hM s2 H2 C2 cl2 fp2 => EE.eq (e_call ih hr (a_cons (e_name 2 rfl) (a_cons (e_name 3 rfl) a_nil)) d (ha d hd) rfl) rfl) (blkOk_by rfl) scSame.nd) (by simp)) a_nil) B.all) (by simp))) rfl (.head _) kq
    | _ => exact hp.elim
end
end Od

set_option Elab.async false
set_option linter.all false
set_option maxRecDepth 100000
set_option maxHeartbeats 4000000
/-! Lw: what the laws' own walks have in common. -/
namespace Od
open PySem L2 TL PySem.Spec
section
variable {X : Cx} {M : Addr → Prop} {e : DE} {cs cs1 cs2 cs3 : Cs} {pos p pos' apos : Pos} {a c ex o x : Expr}
theorem e_eqF {f g : Fm} {k : Nat} (F : EqD X.prog X.w X.K X.mg X.base k) (hn : ∀ C, X.mg "Formula" = some (.ref C) → PySem.W.notFirst X.K C (.ref C) = true) (hr : Room k X.A) (ha : EE X M e cs a f.o cs1) (hb : EE X M e cs1 x g.o cs2) (hm : behindInMarks .Eq x = false := by first | exact nomark _ | rfl) : EE X M e cs (.Compare a [.Eq] [x] pos) (.bl (decide (f.t = g.t))) cs2 :=
  e_cmp (ha.eq f.o_eq) (hb.eq g.o_eq) (cd_own (cn := "Formula") (ns := fnames) (ds := f.fs) (es' := g.fs) F hn hr (f, g) trivial (by rw [f.o_eq, g.o_eq]) rfl) hm
theorem t_neF {f g : Fm} {k : Nat} (F : EqD X.prog X.w X.K X.mg X.base k) (hn : ∀ C, X.mg "Formula" = some (.ref C) → NeF X.K C) (hr : Room (k + 1) X.A) (ha : EE X M e cs a f.o cs1) (hb : EE X M e cs1 x g.o cs2) (hm : behindInMarks .NotEq x = false := by first | exact nomark _ | rfl) : ET X M e cs (.Compare a [.NotEq] [x] pos) (!decide (f.t = g.t)) cs2 :=
  t_cmp (ha.eq f.o_eq) (hb.eq g.o_eq) (cd_neOwn (cn := "Formula") (ns := fnames) (ds := f.fs) (es' := g.fs) F hn hr (f, g) trivial (by rw [f.o_eq, g.o_eq]) rfl) hm
theorem e_signs {ad : Addr} {b : Bag} {m : Int} {n k : Nat} (F : SignsD X.prog X.w X.K X.mg X.base k) (hr : Room k X.A) (ha : EE X M e cs a (.ref ad) cs) (hx : EE X M e cs x (.int m) cs1) (hm : m = n) (hu : Upd1 ad b.c (signsF b n).2.c cs1 cs2) (ok : b.Ok) (hn : n < 64) (hg : Gl X "_law_signs" := by rfl)
    (he : starEach [a, x] X.env = (false, eval a X.env) :: starEach [x] X.env := by rfl) (he2 : starEach [x] X.env = (false, eval x X.env) :: starEach [] X.env := by rfl) (hpl : (backTo pos (starEach [x] X.env)).any (·.1) = false := by rfl) : EE X M e cs (.Call (.Name "_law_signs" p) [a, x] [] pos) (.str (strOf (signsF b n).1)) cs2 :=
  e_call1 F hr (a_cons ha (a_cons hx a_nil he2) he) ⟨ad, b, n⟩ ⟨ok, hn⟩ (by rw [hm]) rfl rfl hu hg (by decide) he hpl
theorem e_same {d : D} {n k : Nat} (F : SameD X.prog X.w X.K X.mg X.base n k) (hr : Room k X.A) (hp : plD n d) (ha : EE X M e cs a d cs1) (hx : EE X M e cs1 x d cs2) (hg : Gl X "_law_same" := by rfl)
    (he : starEach [a, x] X.env = (false, eval a X.env) :: starEach [x] X.env := by rfl) (he2 : starEach [x] X.env = (false, eval x X.env) :: starEach [] X.env := by rfl) (hpl : (backTo pos (starEach [x] X.env)).any (·.1) = false := by rfl)
    (hv : ∀ whole, isTrue (.Call (.Name "_law_same" p) [a, x] [] pos) X.env whole = (do let v ← whole; standAt (Expr.pos (.Call (.Name "_law_same" p) [a, x] [] pos)); holding [v] (truthy v)) := by intro _; rfl) : ET X M e cs (.UnaryOp .Not (.Call (.Name "_law_same" p) [a, x] [] pos) pos') false cs2 :=
  t_not (k0 := true) (t_val (EE.eq (e_call F hr (a_cons ha (a_cons hx a_nil he2) he) d hp rfl hg (by decide) he hpl) rfl) hv)
end
/-! draws from written lists -/
def dpS (l : List Str) (b : Bag) : Str := l.getD (draw b l.length).1.toNat ""
theorem dpS_item {l : List Str} {b : Bag} (h : 0 < l.length) : itemD (.lst (l.map D.str)) (draw b l.length).1.toNat = .str (dpS l b) := by
  obtain ⟨_, h2⟩ := draw_ix (b := b) h
  show (l.map D.str).getD (draw b l.length).1.toNat .non = _
  simp [List.getD, dpS, h2]
theorem dpS_mem {l : List Str} {b : Bag} (h : 0 < l.length) : dpS l b ∈ l := by
  obtain ⟨_, h2⟩ := draw_ix (b := b) h
  simp [List.getD, dpS, h2]
theorem dpA_mem {l : List D} {b : Bag} (h : 0 < l.length) : itemD (.lst l) (draw b l.length).1.toNat ∈ l := by
  obtain ⟨_, h2⟩ := draw_ix (b := b) h
  show l.getD _ .non ∈ l
  simp [List.getD, h2]
theorem cutS_mem {s : Str} {lo hi : Option Int} {c : Nat} (h : c ∈ tl (cutS s lo hi)) : c ∈ tl s := by
  unfold cutS at h
  rw [tl_mk] at h
  exact List.mem_of_mem_drop (List.mem_of_mem_take h)
theorem flats_strs (l : List Str) : flats (l.map D.str) = some (l.map V.str) := by
  induction l with
  | nil => rfl
  | cons s l ih => simp [flats, flat, ih]
theorem flatV_strs (l : List Str) : (l.map V.str).all flatV = true := by simp [List.all_map, flatV]
theorem strOf_app (a b : List Nat) : strOf a ++ strOf b = strOf (a ++ b) := ext_tl (by rw [tl_app]; rfl)
@[simp] theorem tl_strOf (l : List Nat) : tl (strOf l) = l := rfl
/-- the empty table bears every name -/
theorem tab0 {K : PySem.W.Frag} {mg : Str → Option Value} {M : Addr → Prop} {H : Hp} {P : Addr} {q : Str} (h : H P = some (.tbl #[])) : Cell K mg M H P (.tab q) :=
  ⟨#[], h, by unfold TriplesOk; simp, fun pos cv hc => by simp [codeAmong] at hc⟩
end Od

set_option Elab.async false
set_option linter.all false
set_option maxRecDepth 100000
set_option maxHeartbeats 4000000
/-! Lt: _law_text. -/
namespace Od
open PySem L2 TL PySem.Spec
abbrev sText2 : Stmt := top 36
local macro_rules
  | `(tactic| walk_at "cd") => `(tactic| first | exact cd_lt | exact cd_le | exact cd_gt | exact cd_ge | exact cd_eqI | exact cd_eqS)
section
variable {P : Program} {w : World} {K : PySem.W.Frag} {mg : Str → Option Value} {base : Heap}
/-! the law's text -/
abbrev LTextD (P : Program) (w : World) (K : PySem.W.Frag) (mg : Str → Option Value) (base : Heap) (n k : Nat) : Prop := Dfn P w K mg base "_law_text" k (puSp K mg (fun f : Fm => f.nest ≤ n ∧ f.sz ≤ 9000) (fun f => [f.d]) (fun f => .str f.t))
theorem scText2 : FnScope ["_law_mine", "_law_sign"] ["_law_mine"] (defScope sText2) := ⟨rfl, rfl, rfl, by decide +kernel, rfl, by decide +kernel, by decide +kernel⟩
theorem cw_eq (b : Bool) : decide (cw b = ("false" : Str)) = !b := by cases b <;> decide +kernel
theorem fd_first (b : Fm) : ∃ r, b.d = .tup (.str b.w :: r) := by cases b <;> exact ⟨_, rfl⟩
theorem w_false (b : Fm) : decide (b.w = ("false" : Str)) = decide (b = .cst false) := by
  cases b with
  | cst c => cases c <;> decide +kernel
  | le c => rw [decide_eq_false (show ¬ Fm.le c = Fm.cst false from fun z => by cases z)]; exact (by decide +kernel : decide (("letter" : Str) = "false") = false)
  | bin o a b => rw [decide_eq_false (show ¬ Fm.bin o a b = Fm.cst false from fun z => by cases z)]; exact Op.noF o
theorem ok_ltext {f : Addr} {fd : FuncData} (F : Fun K "_law_text" "_law_text" sText2 f fd) (hm : mg "_law_text" = some (.ref f)) (hb : Binds K fd ["_law_mine"] []) : ∀ n, LTextD P w K mg base n (2 + n) := by
  intro n
  induction n with
  | zero => exact dfn_of F hm scText2 hb (fun i => rfl) fun cdv A outer s H0 E g M Q hp hr kq => absurd hp.1 (by have := nest_pos g; omega)
  | succ n ih =>
    refine dfn_of F hm scText2 hb (fun i => rfl) fun cdv A outer s H0 E g M Q hp hr kq => ?_
    obtain ⟨hn, hsz⟩ := hp
    have hu := hu_of hr
    cases g with
    | le c =>
      refine at_if (t_cmp (e_ix (e_name 0 rfl) e_int (xd_tup (j := 0) rfl rfl)) e_str (by walk_at "cd")) (fun _ => ?_) fun h => by simp at h
      exact at_end (e_ix (e_name 0 rfl) e_int (xd_tup (j := 1) rfl rfl)) rfl (.head _) kq
    | cst b =>
      refine at_if (t_cmp (e_ix (e_name 0 rfl) e_int (xd_tup (j := 0) rfl rfl)) e_str (by walk_at "cd")) (fun h => by rw [cw_ne] at h; cases h) fun _ => at_nil ?_
      refine at_if (t_cmp (e_ix (e_name 0 rfl) e_int (xd_tup (j := 0) rfl rfl)) (e_tup (a_cons e_str (a_cons e_str a_nil))) cd_inT2) (fun _ => ?_) fun h => by rw [cw_TF] at h; cases h
      refine at_end (e_dix2 (s := cw b) (t := ct b) (e_ix (e_name 0 rfl) e_int (xd_tup (j := 0) rfl rfl)) ?_ hu) rfl (.head _) kq
      cases b <;> rfl
    | bin o a b =>
      have hs2 : 1 + (a.sz + b.sz) ≤ 9000 := hsz
      have ht2 : 1 + max a.nest b.nest ≤ n + 1 := hn
      have ha := a.t_len
      have hbl := b.t_len
      have z : ∀ n : Nat, n ≤ 100000 → n ≤ sizeLine := fun n h => Nat.le_trans h (by decide)
      have l1 : (("-" : Str)).length = 1 := by decide +kernel
      have l2 : (("(" : Str)).length = 1 := by decide +kernel
      have l3 : ((")" : Str)).length = 1 := by decide +kernel
      have l4 : o.s.length ≤ 4 := by cases o <;> decide +kernel
      obtain ⟨r, hbd⟩ := fd_first b
      have i0 : ixN (D.str b.w :: r).length 0 = some 0 := ixN_nat (n := (D.str b.w :: r).length) (j := 0) (by simp)
      refine at_if (t_cmp (e_ix (e_name 0 rfl) e_int (xd_tup (j := 0) rfl rfl)) e_str (by walk_at "cd")) (fun h => by rw [Op.w_ne] at h; cases h) fun _ => at_nil ?_
      refine at_if (t_cmp (e_ix (e_name 0 rfl) e_int (xd_tup (j := 0) rfl rfl)) (e_tup (a_cons e_str (a_cons e_str a_nil))) cd_inT2) (fun h => by rw [Op.noTF] at h; cases h) fun _ => at_nil ?_
      refine at_if (b0 := decide (o = .im ∧ b = .cst false)) (ET.eq (t_ew (t_and (t_cmp (e_ix (e_name 0 rfl) e_int (xd_tup (j := 0) rfl rfl)) e_str (by walk_at "cd")) fun _ => t_and1 (t_cmp (e_ix ((e_ix (e_name 0 rfl) e_int (xd_tup (d := b.d) (j := 2) rfl rfl)).eq hbd) e_int (xd_tup (j := 0) i0 rfl)) e_str (by walk_at "cd")))) ?_) (fun h => ?_) fun h => at_nil ?_
      · have h1 : decide (o.w = ("if" : Str)) = decide (o = .im) := by cases o <;> decide +kernel
        show (decide (o.w = ("if" : Str)) && decide (b.w = ("false" : Str))) = _
        rw [h1, w_false]; simp
      · simp only [decide_eq_true_eq] at h
        have e : (Fm.bin o a b).t = ("-" : Str) ++ a.t := by
          conv => lhs; unfold Fm.t
          exact if_pos h
        refine at_end (e_bin e_str (EE.eq (e_call ih hr (a_cons (e_ix (e_name 0 rfl) e_int (xd_tup (j := 1) rfl rfl)) a_nil) a ⟨by omega, by omega⟩ rfl) rfl) (bd_addS (z _ (by omega)))) ?_ (.head _) kq
        rw [e]
      · simp only [decide_eq_false_iff_not] at h
        have e : (Fm.bin o a b).t = ("(" : Str) ++ a.t ++ o.s ++ b.t ++ (")" : Str) := by
          conv => lhs; unfold Fm.t
          exact if_neg h
        refine at_set 1 (d := .str o.s) (e_dix3 (s := o.w) (e_ix (e_name 0 rfl) e_int (xd_tup (j := 0) rfl rfl)) (by cases o <;> rfl) hu) ?_ scText2.nd
        refine at_end (e_bin (e_bin (e_bin (e_bin e_str (EE.eq (e_call ih hr (a_cons (e_ix (e_name 0 rfl) e_int (xd_tup (j := 1) rfl rfl)) a_nil) a ⟨by omega, by omega⟩ rfl) rfl) (bd_addS (z _ (by omega)))) (e_name 1 rfl) (bd_addS (z _ (by rw [len_app]; omega)))) (EE.eq (e_call ih hr (a_cons (e_ix (e_name 0 rfl) e_int (xd_tup (j := 2) rfl rfl)) a_nil) b ⟨by omega, by omega⟩ rfl) rfl) (bd_addS (z _ (by rw [len_app, len_app]; omega)))) e_str (bd_addS (z _ (by rw [len_app, len_app, len_app]; omega)))) ?_ (.head _) kq
        rw [e]
end
end Od

set_option Elab.async false
set_option linter.all false
set_option maxRecDepth 100000
set_option maxHeartbeats 4000000
namespace Od
open PySem L2 TL PySem.Spec
abbrev sSize : Stmt := top 38
local macro_rules
  | `(tactic| walk_at "bd") => `(tactic| first | exact bd_add | exact bd_sub | exact bd_mulR (by decide) | exact bd_mulL (by decide) | exact bd_mod (by decide) | exact bd_div (by decide))
local macro_rules
  | `(tactic| walk_at "cd") => `(tactic| first | exact cd_lt | exact cd_le | exact cd_gt | exact cd_ge | exact cd_eqI | exact cd_eqS | exact cd_eqB)
local macro_rules
  | `(tactic| walk_at "le") => `(tactic| repeat (first | exact LeD.nil | apply LeD.drop | apply LeD.same))
section
variable {P : Program} {w : World} {K : PySem.W.Frag} {mg : Str → Option Value} {base : Heap}
abbrev RecD (P : Program) (w : World) (K : PySem.W.Frag) (mg : Str → Option Value) (base : Heap) (x : Str) (res : Fm → D) (n k : Nat) : Prop := Dfn P w K mg base x k (puSp K mg (fun f : Fm => f.nest ≤ n) (fun f => [f.d]) res)
theorem in_nest {f g : Fm} (h : g ∈ f.inner) : g.nest + 1 ≤ f.nest := by
  cases f with
  | bin o a b =>
    simp only [Fm.inner, List.mem_cons, List.not_mem_nil, or_false] at h
    simp only [Fm.nest]
    rcases h with rfl | rfl <;> omega
  | _ => simp [Fm.inner] at h
theorem in_len (f : Fm) : f.inner.length ≤ 2 := by cases f <;> simp [Fm.inner]
theorem scSize : FnScope ["_law_mine", "_law_part"] ["_law_mine"] (defScope sSize) := ⟨rfl, rfl, rfl, by decide +kernel, rfl, by decide +kernel, by decide +kernel⟩
theorem ok_lsize {f : Addr} {fd : FuncData} (F : Fun K "_law_size" "_law_size" sSize f fd) (hm : mg "_law_size" = some (.ref f)) (hb : Binds K fd ["_law_mine"] []) (B : Blt mg) (IN : InnerD P w K mg base 2) : ∀ n, RecD P w K mg base "_law_size" (fun f => .int (f.sz : Nat)) n (3 + n) := by
  intro n
  induction n with
  | zero => exact dfn_of F hm scSize hb (fun i => rfl) fun cdv A outer s H0 E g M Q hp hr kq => absurd hp (by have := nest_pos g; omega)
  | succ n ih =>
    refine dfn_of F hm scSize hb (fun i => rfl) fun cdv A outer s H0 E g M Q hp hr kq => ?_
    have hr2 : Room 2 _ := hr.mono (show 2 ≤ 3 + n by omega)
    have il := in_len g
    refine at_end (e_bin e_int (e_blt (kd_sum (ns := g.inner.map fun g => (g.sz : Int))) (a_cons (EE.eq (e_lcM [("_law_part", 1)] g.inner Fm.d (fun g => D.int (g.sz : Nat)) (ei_list (EE.eq (e_call IN hr2 (a_cons (e_name 0 rfl) a_nil) g trivial rfl) rfl)) (ctg_name 1 scSize.nd (by decide) rfl) (fun _ _ => trivial) (by omega)
      (fun g' hg M' hM s2 H2 C2 cl2 fp2 => EE.eq (e_call ih hr (a_cons (e_name 1 rfl) a_nil) g' (by have := in_nest hg; omega) rfl) rfl) (blkOk_by rfl) scSize.nd) (by simp)) a_nil) B.sum) (by walk_at "bd")) ?_ (.head _) kq
    rw [sz_eq]
theorem max0 (l : List Nat) : maxI ((0 : Int) :: l.map fun (n : Nat) => (n : Int)) = maxDI 0 (l.map fun (n : Nat) => (n : Int)) := by
  cases l with
  | nil => rfl
  | cons a r =>
    have h : (a : Int) ≤ maxI ((a :: r).map fun (n : Nat) => (n : Int)) := maxI_le (by simp)
    show max 0 (maxI ((a :: r).map fun (n : Nat) => (n : Int))) = maxI ((a :: r).map fun (n : Nat) => (n : Int))
    omega
end
end Od

set_option Elab.async false
set_option linter.all false
set_option maxRecDepth 100000
set_option maxHeartbeats 4000000
/-! Ox7: an __init__(self, .., *v) that raises. -/
namespace Od
open PySem L2
section
variable {P : Program} {w : World} {K : PySem.W.Frag} {mg : Str → Option Value} {base : Heap} {heads parts : List D} {x qual c pv : Str} {st : Stmt} {f : Addr} {fd : FuncData} {N ps : List Str} {k : Nat} {z : Xc}
/-- what the body is shown to do -/
def BodyIX (P : Program) (w : World) (K : PySem.W.Frag) (mg : Str → Option Value) (base : Heap) (qual : Str) (st : Stmt) (f : Addr) (N : List Str) (k : Nat) (c : Str) (e0 : List D) (z : Xc) : Prop :=
  ∀ (cdv : Value) (A : Around) (outer : List Env) (s : Shared) (H0 : Hp) (E : XK) (M : Addr → Prop) (ad : Addr) (Q : VK), Room k (A.deeper (PyProof.Rows.envOfC qual (defScope st) s.heap.objs.size f cdv)) → OutK K mg M [ad] H0 [] Q E (.err z) → ¬ M ad →
    At (cxOf (L2.CX P w) P w K mg base N qual (defScope st) f cdv A outer s H0 E) (fun a => M a ∨ a = ad) (some (.ref ad) :: e0.map some ++ List.replicate (N.length - (e0.length + 1)) none) [(ad, .obj c [] [])] [([ad], H0)]
      (wSs (cxOf (L2.CX P w) P w K mg base N qual (defScope st) f cdv A outer s H0 E) (defBody st) { nx := fun _ H' => Q .non H', rt := Q })
theorem ma_starX (hC : ∃ C, mg c = some (.ref C) ∧ Mk K C f) (F : Fun K x qual st f fd) (S : FnScope N (ps ++ [pv]) (defScope st)) (hb : BindsS x qual st ps pv) (hl : heads.length + 1 = ps.length) (hz : parts.length ≤ 100000) (body : BodyIX P w K mg base qual st f N k c (heads ++ [.tup parts]) z) : Ma P w K mg base c (k + 1) (heads ++ parts) (.err z) := by
  obtain ⟨C, hm, hmk⟩ := hC
  obtain ⟨oc, od, kV, doc, pm, an, cdv, ct, osl, rfl, lk, hcd⟩ := F.ex
  refine ⟨C, f, hm, hmk, ?_⟩
  have h := StX.fn_star (P := P) (w := w) (mg := mg) (base := base) (k := k) (CX := (L2.CX P w)) (sp := fun vs H Q E => ∃ (M : Addr → Prop) (xa C dx : Addr) (rest : List V), vs = .ref xa :: rest ∧ mg c = some (.ref C) ∧ H xa = some (.ins C dx []) ∧ ¬ M xa ∧ (∀ a, M a → H a ≠ none) ∧ Rs K mg (fun a => M a ∨ a = xa) H rest (heads ++ [.tup parts]) ∧
    ∀ cls d H', (∀ a, M a → H' a ≠ none) → Ext [xa] H H' → RX K mg M H' cls d z → E cls d H') lk hcd S StX.cxUp (hb kV doc pm an cdv ct) fun A outer s H vs Q E hr h => by
    obtain ⟨M, xa, C', dx, rest, rfl, hm', hx, nx, mt, r, kq⟩ := h
    have mt' : ∀ a, M a ∨ a = xa → H a ≠ none := fun a h => by
      rcases h with h | rfl
      · exact mt a h
      · rw [hx]; simp
    have S0 := sit_start (N := N) (c := [(xa, .obj c [] [])]) mt' (.cons (x := .ref xa) (d := .ref xa) (by simp [R]) r) (fun q hq => by
      rcases List.mem_singleton.mp hq with rfl
      exact ⟨.inr rfl, C', dx, [], hm', by simpa using hx, rfl, Rs.nil⟩) (by show (List.map _ [_]).Nodup; simp)
    refine ⟨wSs (cxOf (L2.CX P w) P w K mg base N qual (defScope st) f cdv A outer s H E) (defBody st), pss_w, ?_⟩
    refine body cdv A outer s H E M xa Q hr (fun cls d H' m2 xt _ rx => kq cls d H' m2 xt rx) nx _ _ S0 (fun q hq => ?_) fun q hq a ha => ?_
    · rcases List.mem_singleton.mp hq with rfl
      exact Ext.refl _ _
    · rcases List.mem_singleton.mp hq with rfl
      exact .inl (by simpa using ha)
  intro A outer s H us vs Q E hr e0 r hsp
  refine h A outer s H us vs Q E hr e0 r ?_
  obtain ⟨M, xa, C', dx, rest, rfl, hm', hx, nx, mt, r, kq⟩ := hsp
  have r1 : Rs K mg (fun a => M a ∨ a = xa) H (rest.take heads.length) heads := by simpa using r.take heads.length
  have r2 : Rs K mg (fun a => M a ∨ a = xa) H (rest.drop heads.length) parts := by simpa using r.drop heads.length
  refine ⟨.ref xa :: rest.take heads.length, rest.drop heads.length, by simp, by simp only [List.length_cons, r1.length]; exact hl, by rw [r2.length]; exact Nat.le_trans hz (by decide), fun p hp0 => ?_⟩
  have kp : ∀ a o, H a = some o → upd H p (.tup (rest.drop heads.length)) a = some o := fun a o h => by rw [upd_ne (ne_of_none h hp0)]; exact h
  have tr : ∀ a, H a ≠ none → upd H p (.tup (rest.drop heads.length)) a ≠ none := fun a h => by
    cases q : H a with
    | none => exact absurd q h
    | some o => rw [kp a o q]; simp
  have npx : p ≠ xa := fun z => by rw [z, hx] at hp0; cases hp0
  refine ⟨M, xa, C', dx, rest.take heads.length ++ [.ref p], rfl, hm', kp _ _ hx, nx, fun a h => tr a (mt a h), ?_, fun cls d H' mt' xt rr => kq cls d H' mt' (fun a o h n => xt a o (kp a o h) n) rr⟩
  refine (Rs.ext (fun a o _ h => kp a o h) (fun _ n _ => n) _ r1).append (.cons ?_ .nil)
  unfold R
  exact ⟨p, _, rfl, .inl ⟨fun z => z.elim (fun z => mt p z hp0) npx, upd_same⟩, Rs.ext (fun a o _ h => kp a o h) (fun _ n _ => n) _ r2⟩
end
end Od

set_option Elab.async false
set_option linter.all false
set_option maxRecDepth 100000
set_option maxHeartbeats 4000000
/-! Fr1: the reader over any text: what it reads, as a function; skip and sign. -/
namespace Od
open PySem L2 TL PySem.Spec
abbrev sReader : Stmt := top 22
abbrev sRInit : Stmt := inClass sReader 0
abbrev sSkip : Stmt := inClass sReader 1
abbrev sSign : Stmt := inClass sReader 2
local macro_rules
  | `(tactic| walk_at "bd") => `(tactic| first | exact bd_add | exact bd_sub | exact bd_mulR (by decide) | exact bd_mulL (by decide) | exact bd_mod (by decide) | exact bd_div (by decide))
/-! ### what is read -/
/-- t stands in s at i -/
def stB (s t : List Nat) (i : Nat) : Bool := decide ((s.drop i).take t.length = t)
def opAt (s : List Nat) (i : Nat) : Option (Op × Nat) :=
  if s[i]? = some 45 then (if s[i + 1]? = some 62 then some (.im, i + 2) else none)
  else if s[i]? = some 38 then some (.an, i + 1)
  else if s[i]? = some 124 then some (.orr, i + 1)
  else none
def rdP (rec : Nat → Option Fm × Nat) (s : List Nat) (i : Nat) : Option Fm × Nat :=
  match rec i with
  | (none, j) => (none, j)
  | (some a, j) =>
    if s[j]? = some 32 then
      match opAt s (j + 1) with
      | none => (none, j + 1)
      | some (o, j2) =>
        if s[j2]? = some 32 then
          match rec (j2 + 1) with
          | (none, j3) => (none, j3)
          | (some b, j3) => if s[j3]? = some 41 then (some (.bin o a b), j3 + 1) else (none, j3)
        else (none, j2)
    else (none, j)
def rdN (r : Option Fm × Nat) : Option Fm × Nat := (r.1.map fun a => Fm.bin .im a (.cst false), r.2)
def rdF : Nat → List Nat → Nat → Option Fm × Nat
  | 0, _, i => (none, i)
  | n + 1, s, i => match s[i]? with
    | none => (none, i + 1)
    | some c =>
      if c ∈ alpha then (some (.le c), i + 1)
      else if c = 49 then (some (.cst true), i + 1)
      else if c = 48 then (some (.cst false), i + 1)
      else if c = 45 then rdN (rdF n s (i + 1))
      else if c = 40 then rdP (rdF n s) s (i + 1)
      else (none, i + 1)
def readB (s : List Nat) : Option Fm := match rdF 60 s 0 with
  | (some f, j) => if j = s.length ∧ tl f.t = s then some f else none
  | _ => none
theorem rdP_ok {rec : Nat → Option Fm × Nat} {s : List Nat} {n : Nat} (h : ∀ i f j, rec i = (some f, j) → f.ok ∧ f.sz + 2 * i ≤ 2 * j ∧ j ≤ s.length ∧ f.nest ≤ n) {i j : Nat} {f : Fm} (e : rdP rec s i = (some f, j)) : f.ok ∧ f.sz + 2 * i ≤ 2 * j ∧ j ≤ s.length ∧ f.nest ≤ n + 1 := by
  unfold rdP at e
  split at e
  · cases e
  next a j1 h1 =>
    obtain ⟨a1, a2, a3, a4⟩ := h _ _ _ h1
    split at e
    · split at e
      · cases e
      next o j2 h2 =>
        split at e
        · split at e
          · cases e
          next b j3 h3 =>
            obtain ⟨b1, b2, b3, b4⟩ := h _ _ _ h3
            split at e
            next h4 =>
              have hj3 : j3 < s.length := by
                cases Nat.lt_or_ge j3 s.length with
                | inl z => exact z
                | inr z => rw [List.getElem?_eq_none z] at h4; cases h4
              have hj2 : j1 + 1 < j2 := by
                unfold opAt at h2
                split at h2
                · split at h2
                  · cases h2; omega
                  · cases h2
                · split at h2
                  · cases h2; omega
                  · split at h2
                    · cases h2; omega
                    · cases h2
              cases e
              exact ⟨⟨a1, b1⟩, by simp only [Fm.sz]; omega, by omega, by simp only [Fm.nest]; omega⟩
            · cases e
        · cases e
    · cases e
theorem rdF_ok : ∀ (n : Nat) (s : List Nat) (i : Nat) (f : Fm) (j : Nat), rdF n s i = (some f, j) → f.ok ∧ f.sz + 2 * i ≤ 2 * j ∧ j ≤ s.length ∧ f.nest ≤ n := by
  intro n
  induction n with
  | zero => intro s i f j e; cases e
  | succ n ih =>
    intro s i f j e
    unfold rdF at e
    split at e
    · cases e
    next c hc =>
      have hi : i < s.length := by
        cases Nat.lt_or_ge i s.length with
        | inl z => exact z
        | inr z => rw [List.getElem?_eq_none z] at hc; cases hc
      split at e
      next ha => cases e; exact ⟨ha, by simp only [Fm.sz]; omega, by omega, by simp only [Fm.nest]; omega⟩
      · split at e
        · cases e; exact ⟨trivial, by simp only [Fm.sz]; omega, by omega, by simp only [Fm.nest]; omega⟩
        · split at e
          · cases e; exact ⟨trivial, by simp only [Fm.sz]; omega, by omega, by simp only [Fm.nest]; omega⟩
          · split at e
            · unfold rdN at e
              cases h1 : (rdF n s (i + 1)).1 with
              | none => rw [h1] at e; cases e
              | some a =>
                rw [h1] at e
                have h2 : rdF n s (i + 1) = (some a, (rdF n s (i + 1)).2) := by rw [← h1]
                obtain ⟨a1, a2, a3, a4⟩ := ih _ _ _ _ h2
                have np := nest_pos a
                cases e
                exact ⟨⟨a1, trivial⟩, by simp only [Fm.sz]; omega, a3, by simp only [Fm.nest]; omega⟩
            · split at e
              · obtain ⟨a1, a2, a3, a4⟩ := rdP_ok (fun i f j => ih s i f j) e
                exact ⟨a1, by omega, a3, a4⟩
              · cases e
/-- right texts are read -/
theorem Std.get {s : List Nat} {i c : Nat} {r : List Nat} (h : Std s i (c :: r)) : s[i]? = some c := by
  obtain ⟨p, h⟩ := h
  have : (s.drop i)[0]? = some c := by rw [h]; rfl
  simpa using this
theorem rdF_std : ∀ (n : Nat) (f : Fm), f.ok → f.nest ≤ n → ∀ (s : List Nat) (i : Nat), Std s i (tl f.t) → rdF n s i = (some f, i + (tl f.t).length) := by
  intro n
  induction n with
  | zero => intro f _ h; have := nest_pos f; omega
  | succ n ih =>
    intro f ok ne s i st
    cases f with
    | le c =>
      have st' : Std s i [c] := st
      unfold rdF
      rw [st'.get]
      simp only
      rw [if_pos (show c ∈ alpha from ok)]
      rfl
    | cst b =>
      have e : tl (Fm.cst b).t = [if b then 49 else 48] := by cases b <;> decide +kernel
      rw [e] at st ⊢
      unfold rdF
      rw [st.get]
      cases b <;> rfl
    | bin o a b =>
      by_cases hneg : o = .im ∧ b = .cst false
      · obtain ⟨rfl, rfl⟩ := hneg
        have hn : 1 + max a.nest 1 ≤ n + 1 := ne
        rw [tl_neg] at st ⊢
        unfold rdF
        rw [st.get]
        simp only
        rw [if_neg (by decide), if_neg (by decide), if_neg (by decide), if_pos trivial, ih a ok.1 (by omega) s (i + 1) (Std.right (t := [45]) (u := tl a.t) st)]
        unfold rdN
        simp only [Option.map_some, List.length_cons]
        rw [show i + 1 + (tl a.t).length = i + ((tl a.t).length + 1) by omega]
      · have hn : 1 + max a.nest b.nest ≤ n + 1 := ne
        rw [tl_bin hneg] at st ⊢
        unfold rdF
        rw [st.get]
        simp only
        rw [if_neg (by decide), if_neg (by decide), if_neg (by decide), if_neg (by decide), if_pos trivial]
        obtain ⟨s1, s2, s3, s4⟩ := inText_parts (Std.right (t := [40]) (u := inText o a b) st)
        have e1 : i + [40].length = i + 1 := rfl
        rw [e1] at s1 s2 s3 s4
        unfold rdP
        rw [ih a ok.1 (by omega) s _ s1]
        simp only
        rw [tl_os] at s2
        rw [if_pos (Std.get (r := opt o ++ [32]) s2)]
        have q2 : Std s (i + 1 + (tl a.t).length + 1) (opt o ++ [32]) := Std.right (t := [32]) (u := opt o ++ [32]) s2
        have lo : (tl o.s).length = 1 + (opt o).length + 1 := by rw [tl_os]; simp; omega
        have hop : opAt s (i + 1 + (tl a.t).length + 1) = some (o, i + 1 + (tl a.t).length + 1 + (opt o).length) := by
          unfold opAt
          cases o with
          | an => rw [Std.get (c := 38) (r := [32]) q2]; rfl
          | orr => rw [Std.get (c := 124) (r := [32]) q2]; rfl
          | im =>
            have q3 : Std s (i + 1 + (tl a.t).length + 1 + 1) ([62] ++ [32]) := Std.right (t := [45]) (u := [62, 32]) q2
            rw [Std.get (c := 45) (r := [62, 32]) q2, Std.get (c := 62) (r := [32]) q3]; rfl
        rw [hop]
        simp only
        rw [if_pos (Std.get (r := []) q2.right)]
        rw [lo, show i + 1 + (tl a.t).length + (1 + (opt o).length + 1) = i + 1 + (tl a.t).length + 1 + (opt o).length + 1 by omega] at s3 s4
        rw [ih b ok.2 (by omega) s _ s3]
        simp only
        rw [if_pos s4.get]
        have lin : (inText o a b).length = (tl a.t).length + (tl o.s).length + (tl b.t).length + 1 := by unfold inText; simp; omega
        simp only [List.length_cons]
        rw [lin, lo]
        refine Prod.ext rfl ?_
        show _ = _
        simp only
        omega
theorem readB_some {s : List Nat} {f : Fm} (h : readB s = some f) : f.ok ∧ f.nest ≤ 60 ∧ tl f.t = s ∧ f.sz ≤ 2 * s.length := by
  unfold readB at h
  split at h
  next g j hg =>
    obtain ⟨a1, a2, a3, a4⟩ := rdF_ok _ _ _ _ _ hg
    split at h
    next hc => cases h; exact ⟨a1, a4, hc.2, by omega⟩
    · cases h
  · cases h
theorem readB_t {f : Fm} (h : f.ok) (hn : f.nest ≤ 60) : readB (tl f.t) = some f := by
  unfold readB
  rw [rdF_std 60 f h hn (tl f.t) 0 ⟨[], by simp⟩]
  simp
/-! ### the reader's small methods -/
def rn : List Str := ["source", "at"]
def rd (src : Str) (i : Nat) : MC := .obj "Reader" rn [.str src, .int (i : Nat)]
structure RdT (w : World) (K : PySem.W.Frag) (mg : Str → Option Value) (C : Addr) : Prop where
  hm : mg "Reader" = some (.ref C)
  cl : Cls K C
  no : ∀ n ∈ rn, NoAttr K C n
theorem subAt_stB {s t : Str} {i : Nat} (ht : tl t ≠ []) : Txt.startswith3 s t (i : Int) = stB (tl s) (tl t) i := by
  have hs : s.length = (tl s).length := len_tl s
  have ht2 : t.length = (tl t).length := len_tl t
  have tp : 0 < (tl t).length := List.length_pos_iff.mpr ht
  unfold Txt.startswith3 stB
  by_cases hi : i + (tl t).length ≤ (tl s).length
  · have e1 : PySem.fromIndex s.length (i : Int) = i := by
      unfold PySem.fromIndex
      rw [if_neg (by omega)]
      omega
    rw [e1, hs, ht2, decide_eq_true hi, Bool.true_and]
    unfold PySem.Builtin.Str.subAt
    rw [Bool.eq_iff_iff, beq_iff_eq, decide_eq_true_eq, ← Array.toList_inj, Array.toList_extract, ht2]
    show ((tl s).drop i).take (i + (tl t).length - i) = tl t ↔ _
    rw [show i + (tl t).length - i = (tl t).length by omega]
  · have e2 : decide (((tl s).drop i).take (tl t).length = tl t) = false := by
      rw [decide_eq_false_iff_not]
      intro z
      have := congrArg List.length z
      simp only [List.length_take, List.length_drop] at this
      omega
    rw [e2]
    have e1 : ¬ (PySem.fromIndex s.length (i : Int) + t.length ≤ s.length) := by
      unfold PySem.fromIndex
      rw [if_neg (by omega)]
      omega
    rw [decide_eq_false e1, Bool.false_and]
def sgO : Option Nat → Str
  | some c => sg c
  | none => ""
theorem cut_sgO (s : Str) (i : Nat) : cutS s (some (i : Int)) (some ((i : Int) + 1)) = sgO (tl s)[i]? := by
  cases h : (tl s)[i]? with
  | some c =>
    have hi : i < (tl s).length := by
      cases Nat.lt_or_ge i (tl s).length with
      | inl z => exact z
      | inr z => rw [List.getElem?_eq_none z] at h; cases h
    have : Std (tl s) i [c] := ⟨(tl s).drop (i + 1), by
      rw [List.drop_eq_getElem_cons hi]
      rw [List.getElem?_eq_getElem hi] at h
      cases h; rfl⟩
    exact this.sign
  | none =>
    have hi : (tl s).length ≤ i := by
      cases Nat.lt_or_ge i (tl s).length with
      | inl z => rw [List.getElem?_eq_getElem z] at h; cases h
      | inr z => exact z
    apply ext_tl
    unfold cutS
    have hs : s.length = (tl s).length := len_tl s
    have e1 : HT.sIx s.length 0 (some (i : Int)) = s.length := by rw [HT.sIx_nat]; exact Nat.min_eq_right (by omega)
    rw [e1]
    show ((tl s).drop s.length).take _ = _
    rw [hs, List.drop_length, List.take_nil]; rfl
abbrev badTx : Xc := ⟨"InvalidText", ["code"], [.str "InvalidText"]⟩
def outF : Option Fm → Out
  | some f => .ok f.o
  | none => .err badTx
theorem scRInit : FnScope ["self", "text"] ["self", "text"] (defScope sRInit) := ⟨rfl, rfl, rfl, by decide +kernel, rfl, by decide +kernel, by decide +kernel⟩
theorem scSkip : FnScope ["self", "sign"] ["self", "sign"] (defScope sSkip) := ⟨rfl, rfl, rfl, by decide +kernel, rfl, by decide +kernel, by decide +kernel⟩
theorem scSign : FnScope ["self"] ["self"] (defScope sSign) := ⟨rfl, rfl, rfl, by decide +kernel, rfl, by decide +kernel, by decide +kernel⟩
theorem at_endNon {X : Cx} {M : Addr → Prop} {e : DE} {c0 : Cs} {H0 : Hp} {D0 : Ends} {fr : Frs} {A0 : List Addr} (hfr : (A0, H0) ∈ fr)
    (kq : ∀ v H', (∀ a, M a → H' a ≠ none) → Ext A0 H0 H' → (∀ p ∈ c0, M p.1 ∧ Cell X.K X.mg M H' p.1 p.2) → R X.K X.mg M H' v .non → D0.rt v H') (hq : ∀ σ H, D0.rt .non H → D0.nx σ H) : At X M e c0 fr (wSs X [] D0) := at_nil fun σ H S x l =>
  hq σ H (kq .non H S.mt (x _ hfr) S.cel (by simp [R]))
section
variable (P : Program) (w : World) (K : PySem.W.Frag) (mg : Str → Option Value) (base : Heap)
abbrev MkR (k : Nat) : Prop := Mkr P w K mg base "Reader" k (mkSp K mg "Reader" (fun _ : Str => True) (fun s => [.str s]) rn (fun s => [.str s, .int ((0 : Nat) : Int)]))
abbrev SkipO (k : Nat) : Prop := ∀ (ad : Addr) (src t : Str) (i : Nat), tl t ≠ [] → src.length ≤ 9000 → i ≤ 10000 → t.length ≤ 100 → stB (tl src) (tl t) i = true → Me P w K mg base "Reader" "skip" k [.ref ad, .str t] [(ad, rd src i)] (.ok .non) [(ad, rd src (i + (tl t).length))]
abbrev SkipX (k : Nat) : Prop := ∀ (ad : Addr) (src t : Str) (i : Nat), tl t ≠ [] → src.length ≤ 9000 → i ≤ 10000 → stB (tl src) (tl t) i = false → Me P w K mg base "Reader" "skip" k [.ref ad, .str t] [(ad, rd src i)] (.err badTx) [(ad, rd src i)]
abbrev SignD (k : Nat) : Prop := ∀ (ad : Addr) (src : Str) (i : Nat), src.length ≤ 9000 → Me P w K mg base "Reader" "sign" k [.ref ad] [(ad, rd src i)] (.ok (.str (sgO (tl src)[i]?))) [(ad, rd src i)]
variable {P w K mg base}
theorem ok_rinit {f C : Addr} {fd : FuncData} (F : Fun K "__init__" "Reader.__init__" sRInit f fd) (hC : ∃ C, mg "Reader" = some (.ref C) ∧ Mk K C f) (hb : Binds K fd ["self", "text"] []) (T : RdT w K mg C) : MkR P w K mg base 1 := by
  refine mkr_of hC F scRInit hb (fun i => rfl) fun cdv A outer s H0 E g M ad Q hp hr kq nm => ?_
  refine at_fldN (e_name 1 rfl) (e_name 0 rfl) T.hm T.cl (T.no _ (by decide +kernel)) (by decide) (by decide +kernel) .here ?_
  refine at_fldN e_int (e_name 0 rfl) T.hm T.cl (T.no _ (by decide +kernel)) (by decide) (by decide +kernel) .here ?_
  exact at_endI (.head _) rfl nm kq fun _ _ h => h
theorem ok_skipO {f C : Addr} {fd : FuncData} (F : Fun K "skip" "Reader.skip" sSkip f fd) (hC : ∃ C, mg "Reader" = some (.ref C) ∧ Cls K C ∧ Meth K C "skip" f) (hb : Binds K fd ["self", "sign"] []) (B : Blt mg) (T : RdT w K mg C) : SkipO P w K mg base 2 := fun ad src t i ne le hi ht hs => by
  refine me_of hC F scSkip hb fun cdv A outer s H0 E M Q hr hM kq => ?_
  have ht2 : t.length = (tl t).length := len_tl t
  refine at_if (b0 := false) (cs1 := [(ad, rd src i)]) ?_ (fun h => by cases h) (fun _ => at_nil ?_)
  · exact t_not (k0 := true) (t_val (EE.eq (e_sw (e_fldc (e_name 0 rfl) (.head _) T.hm T.cl (T.no _ (by decide +kernel)) 0 (by decide +kernel) rfl) (e_name 1 rfl) (e_fldc (e_name 0 rfl) (.head _) T.hm T.cl (T.no _ (by decide +kernel)) 1 (by decide +kernel) rfl)) (by rw [subAt_stB ne, hs])))
  · refine at_fldaug (cn := "Reader") (ns := rn) (ds := [.str src, .int (i : Nat)]) (i := (i : Int)) (j := (t.length : Nat)) 1 (e_name 0 rfl) (e_blt (kd_lenS (Nat.le_trans (by omega : t.length ≤ 100000) (by decide))) (a_cons (e_name 1 rfl) a_nil) B.len) T.hm T.cl (T.no _ (by decide +kernel)) (by decide) (by decide +kernel) rfl .here ?_
    refine at_eqC (cs2 := [(ad, rd src (i + (tl t).length))]) ?_ (by
      rw [ht2]; show [(ad, MC.obj "Reader" rn [.str src, .int ((i : Int) + ((tl t).length : Nat))])] = _
      rfl)
    exact at_endNon (.head _) kq fun _ _ h => h
theorem ok_skipX {f C XC : Addr} {fd : FuncData} (F : Fun K "skip" "Reader.skip" sSkip f fd) (hC : ∃ C, mg "Reader" = some (.ref C) ∧ Cls K C ∧ Meth K C "skip" f) (hb : Binds K fd ["self", "sign"] []) (B : Blt mg) (T : RdT w K mg C) (XE : Ox.Err0 P w K mg "InvalidText" "InvalidText" XC) : SkipX P w K mg base 3 := fun ad src t i ne le hi hs => by
  refine me_of hC F scSkip hb fun cdv A outer s H0 E M Q hr hM kq => ?_
  refine at_if (b0 := true) (cs1 := [(ad, rd src i)]) ?_ (fun _ => ?_) (fun h => by cases h)
  · exact t_not (k0 := false) (t_val (EE.eq (e_sw (e_fldc (e_name 0 rfl) (.head _) T.hm T.cl (T.no _ (by decide +kernel)) 0 (by decide +kernel) rfl) (e_name 1 rfl) (e_fldc (e_name 0 rfl) (.head _) T.hm T.cl (T.no _ (by decide +kernel)) 1 (by decide +kernel) rfl)) (by rw [subAt_stB ne, hs])))
  · exact at_raise0G XE (hr.mono (show 2 ≤ 2 by decide)) (.head _) (fun a h => h) (fun p hp => hp) (fun p hp => hM p hp) kq
theorem ok_sign {f C : Addr} {fd : FuncData} (F : Fun K "sign" "Reader.sign" sSign f fd) (hC : ∃ C, mg "Reader" = some (.ref C) ∧ Cls K C ∧ Meth K C "sign" f) (hb : Binds K fd ["self"] []) (B : Blt mg) (T : RdT w K mg C) : SignD P w K mg base 1 := fun ad src i le => by
  refine me_of hC F scSign hb fun cdv A outer s H0 E M Q hr hM kq => ?_
  exact at_end (e_slice (e_fldc (e_name 0 rfl) (.head _) T.hm T.cl (T.no _ (by decide +kernel)) 0 (by decide +kernel) rfl) (o_some (e_fldc (e_name 0 rfl) (.head _) T.hm T.cl (T.no _ (by decide +kernel)) 1 (by decide +kernel) rfl)) (o_some (e_bin (e_fldc (e_name 0 rfl) (.head _) T.hm T.cl (T.no _ (by decide +kernel)) 1 (by decide +kernel) rfl) e_int (by walk_at "bd"))) (sd_str (Nat.le_trans (by omega : src.length ≤ 100000) (by decide)))) (by rw [cut_sgO]) (.head _) kq
end
end Od

set_option Elab.async false
set_option linter.all false
set_option maxRecDepth 100000
set_option maxHeartbeats 4000000
/-! Fr2: Reader.formula, Reader.pair, read_formula over any text. -/
namespace Od
open PySem L2 TL PySem.Spec
abbrev sRForm : Stmt := inClass sReader 3
abbrev sPair : Stmt := inClass sReader 4
abbrev sReadF : Stmt := top 23
theorem stB1 (s : List Nat) (c i : Nat) : stB s [c] i = decide (s[i]? = some c) := by
  unfold stB
  apply decide_eq_decide.mpr
  cases h : s[i]? with
  | none =>
    have hi : s.length ≤ i := by
      cases Nat.lt_or_ge i s.length with
      | inl z => rw [List.getElem?_eq_getElem z] at h; cases h
      | inr z => exact z
    rw [List.drop_eq_nil_of_le hi]; simp
  | some d =>
    have hi : i < s.length := by
      cases Nat.lt_or_ge i s.length with
      | inl z => exact z
      | inr z => rw [List.getElem?_eq_none z] at h; cases h
    rw [List.getElem?_eq_getElem hi] at h
    rw [List.drop_eq_getElem_cons hi, Option.some.inj h]
    simp
theorem stB2 (s : List Nat) (c d i : Nat) : stB s [c, d] i = (decide (s[i]? = some c) && decide (s[i + 1]? = some d)) := by
  rw [← stB1, ← stB1]
  unfold stB
  rw [Bool.eq_iff_iff, Bool.and_eq_true, decide_eq_true_eq, decide_eq_true_eq, decide_eq_true_eq]
  have e : s.drop (i + 1) = (s.drop i).drop 1 := by rw [List.drop_drop]
  rw [e]
  match s.drop i with
  | [] => simp
  | [x] => simp
  | x :: y :: r => simp
/-- what the sign asks to be skipped -/
def tOf (o : Option Nat) : Str := if o = some 45 then "->" else if o = some 38 then "&" else if o = some 124 then "|" else "&"
theorem tamp : (("&" : Str)) = sg 38 := sgn _ _ (by decide +kernel)
theorem tbar : (("|" : Str)) = sg 124 := sgn _ _ (by decide +kernel)
theorem tcl : tl ((")" : Str)) = [41] := by decide +kernel
theorem tsp : tl ((" " : Str)) = [32] := by decide +kernel
theorem arg_t (o : Option Nat) : (if decide (sgO o = "-") = true then D.str "->" else if (decide (sgO o = "&") || decide (sgO o = "|")) = true then D.str (sgO o) else D.str "&") = .str (tOf o) := by
  cases o with
  | none => rfl
  | some c =>
    show (if decide (sg c = "-") = true then D.str "->" else if (decide (sg c = "&") || decide (sg c = "|")) = true then D.str (sg c) else D.str "&") = _
    rw [tm]
    unfold tOf
    by_cases h1 : c = 45
    · subst h1; rw [if_pos (by simp), if_pos rfl]
    · rw [if_neg (by rw [sg_ne h1]; simp), if_neg (fun z => h1 (Option.some.inj z)), tamp, tbar]
      by_cases h2 : c = 38
      · subst h2; rw [if_pos (by simp), if_pos rfl]
      · rw [if_neg (fun z => h2 (Option.some.inj z))]
        by_cases h3 : c = 124
        · subst h3; rw [if_pos (by simp), if_pos rfl]
        · rw [if_neg (by rw [sg_ne h2, sg_ne h3]; simp), if_neg (fun z => h3 (Option.some.inj z))]
theorem tOf_ne (o : Option Nat) : tl (tOf o) ≠ [] ∧ (tOf o).length ≤ 100 := by
  unfold tOf
  split
  · exact ⟨by decide +kernel, by decide +kernel⟩
  · split
    · exact ⟨by decide +kernel, by decide +kernel⟩
    · split
      · exact ⟨by decide +kernel, by decide +kernel⟩
      · exact ⟨by decide +kernel, by decide +kernel⟩
theorem tl_im : tl (("->" : Str)) = [45, 62] := by decide +kernel
theorem opAt_some {s : List Nat} {i j : Nat} {o : Op} (h : opAt s i = some (o, j)) : stB s (tl (tOf s[i]?)) i = true ∧ j = i + (tl (tOf s[i]?)).length ∧ sgO s[i]? = sg (opc o) ∧ j ≤ s.length := by
  have lt : ∀ {k c : Nat}, s[k]? = some c → k < s.length := fun {k c} e => by
    cases Nat.lt_or_ge k s.length with
    | inl z => exact z
    | inr z => rw [List.getElem?_eq_none z] at e; cases e
  unfold opAt at h
  split at h
  next h1 =>
    split at h
    next h2 =>
      cases h
      have ht : tOf s[i]? = "->" := if_pos h1
      rw [ht, tl_im, stB2, h1, h2]
      exact ⟨by simp, rfl, rfl, by have := lt h2; omega⟩
    · cases h
  next h1 =>
    split at h
    next h2 =>
      cases h
      have ht : tOf s[i]? = sg 38 := by unfold tOf; rw [if_neg h1, if_pos h2, tamp]
      rw [ht, tl_sg, stB1, h2]
      exact ⟨by simp, rfl, rfl, by have := lt h2; omega⟩
    next h2 =>
      split at h
      next h3 =>
        cases h
        have ht : tOf s[i]? = sg 124 := by unfold tOf; rw [if_neg h1, if_neg h2, if_pos h3, tbar]
        rw [ht, tl_sg, stB1, h3]
        exact ⟨by simp, rfl, rfl, by have := lt h3; omega⟩
      · cases h
theorem opAt_none {s : List Nat} {i : Nat} (h : opAt s i = none) : stB s (tl (tOf s[i]?)) i = false := by
  unfold opAt at h
  split at h
  next h1 =>
    split at h
    · cases h
    next h2 =>
      have ht : tOf s[i]? = "->" := if_pos h1
      rw [ht, tl_im, stB2, decide_eq_false h2, Bool.and_false]
  next h1 =>
    split at h
    · cases h
    next h2 =>
      split at h
      · cases h
      next h3 =>
        have ht : tOf s[i]? = sg 38 := by unfold tOf; rw [if_neg h1, if_neg h2, if_neg h3, tamp]
        rw [ht, tl_sg, stB1, decide_eq_false h2]
section
variable (P : Program) (w : World) (K : PySem.W.Frag) (mg : Str → Option Value) (base : Heap)
abbrev RForm (n k : Nat) : Prop := ∀ (ad : Addr) (src : Str) (i : Nat), src.length ≤ 4000 → i ≤ src.length → Me P w K mg base "Reader" "formula" k [.ref ad, .int (n : Int)] [(ad, rd src i)] (outF (rdF n (tl src) i).1) [(ad, rd src (rdF n (tl src) i).2)]
abbrev RPair (n k : Nat) : Prop := ∀ (ad : Addr) (src : Str) (i : Nat), src.length ≤ 4000 → i ≤ src.length → Me P w K mg base "Reader" "pair" k [.ref ad, .int (n : Int)] [(ad, rd src i)] (outF (rdP (rdF n (tl src)) (tl src) i).1) [(ad, rd src (rdP (rdF n (tl src)) (tl src) i).2)]
structure RdKit : Prop where
  isLet : IsLetD P w K mg base 2
  letter : LetterD P w K mg base 7
  tru : CstD P w K mg base "true" true 7
  fal : CstD P w K mg base "false" false 7
  neg : NegD P w K mg base 7
  and : BinD' P w K mg base "__and__" .an 7
  or : BinD' P w K mg base "__or__" .orr 7
  shr : BinD' P w K mg base "__rshift__" .im 7
  sf : ∀ C, mg "Formula" = some (.ref C) → PySem.W.selfFirst K C = true
  skipO : SkipO P w K mg base 2
  skipX : SkipX P w K mg base 3
  sign : SignD P w K mg base 1
  xt : ∃ XC, Ox.Err0 P w K mg "InvalidText" "InvalidText" XC
variable {P w K mg base}
theorem scRForm : FnScope ["self", "room", "sign"] ["self", "room"] (defScope sRForm) := ⟨rfl, rfl, rfl, by decide +kernel, rfl, by decide +kernel, by decide +kernel⟩
theorem scPair : FnScope ["self", "room", "one", "sign", "other"] ["self", "room"] (defScope sPair) := ⟨rfl, rfl, rfl, by decide +kernel, rfl, by decide +kernel, by decide +kernel⟩
theorem isLet_c (c : Nat) : isLet (sg c) = decide (c ∈ alpha) := by simp [isLet]
theorem lt_of_get {s : List Nat} {k c : Nat} (e : s[k]? = some c) : k < s.length := by
  cases Nat.lt_or_ge k s.length with
  | inl z => exact z
  | inr z => rw [List.getElem?_eq_none z] at e; cases e
theorem ok_rform {f C : Addr} {fd : FuncData} (F : Fun K "formula" "Reader.formula" sRForm f fd) (hC : ∃ C, mg "Reader" = some (.ref C) ∧ Cls K C ∧ Meth K C "formula" f) (hb : Binds K fd ["self", "room"] []) (T : RdT w K mg C) (Kt : RdKit P w K mg base) (n k : Nat) (hk : 8 ≤ k)
    (ih : ∀ m, n = m + 1 → RForm P w K mg base m k ∧ RPair P w K mg base m k) : RForm P w K mg base n (k + 1) := fun ad src i le hi => by
  refine me_of hC F scRForm hb fun cdv A outer s H0 E M Q hr hM kq => ?_
  obtain ⟨XC, XE⟩ := Kt.xt
  have hMj : ∀ j, ∀ p ∈ [(ad, rd src j)], M p.1 := fun j p hp => by
    rcases List.mem_singleton.mp hp with rfl
    exact hM (ad, rd src i) (.head _)
  have hr8 : Room 8 _ := hr.mono hk
  have hs2 : src.length = (tl src).length := len_tl src
  cases n with
  | zero =>
    refine at_if (b0 := true) (cs1 := [(ad, rd src i)]) (ET.eq (t_cmp (e_name 1 rfl) e_int cd_lt) rfl) (fun _ => ?_) (fun h => by cases h)
    exact at_raise0G XE (hr8.mono (show 2 ≤ 8 by decide)) (.head _) (fun a h => h) (fun p hp => hp) (hMj _) kq
  | succ m =>
    obtain ⟨ih1, ih2⟩ := ih m rfl
    refine at_if (b0 := false) (cs1 := [(ad, rd src i)]) (ET.eq (t_cmp (e_name 1 rfl) e_int cd_lt) (by simp; omega)) (fun h => by cases h) (fun _ => at_nil ?_)
    refine at_set 2 (d := .str (sgO (tl src)[i]?)) (cs1 := [(ad, rd src i)]) (e_mec0 (ns := rn) (gs := [.str src, .int (i : Nat)]) (Kt.sign ad src i (by omega)) (hr8.mono (by decide)) (e_name 0 rfl) (.head _) (swA rfl)) ?_ scRForm.nd
    refine at_fldaug (cn := "Reader") (ns := rn) (ds := [.str src, .int (i : Nat)]) (i := (i : Int)) (j := 1) 1 (e_name 0 rfl) e_int T.hm T.cl (T.no _ (by decide +kernel)) (by decide) (by decide +kernel) rfl .here ?_
    refine at_eqC (cs2 := [(ad, rd src (i + 1))]) ?_ rfl
    have hm1 : (((m + 1 : Nat) : Int) - 1) = (m : Int) := by omega
    cases hc : (tl src)[i]? with
    | none =>
      have hres : rdF (m + 1) (tl src) i = (none, i + 1) := by unfold rdF; rw [hc]
      rw [hres] at kq
      refine at_if (b0 := false) (cs1 := [(ad, rd src (i + 1))]) (t_val (EE.eq (e_call Kt.isLet (hr8.mono (by decide)) (a_cons (e_name 2 rfl) a_nil) ("" : Str) (by show ("" : Str).length ≤ 100000; decide +kernel) rfl) (congrArg D.bl (by decide +kernel)))) (fun h => by cases h) (fun _ => at_nil ?_)
      refine at_if (b0 := false) (cs1 := [(ad, rd src (i + 1))]) (ET.eq (t_ew (t_or (t_cmp (e_name 2 rfl) e_str cd_eqS) fun _ => t_or1 (t_cmp (e_name 2 rfl) e_str cd_eqS))) (by decide +kernel)) (fun h => by cases h) (fun _ => at_nil ?_)
      refine at_if (b0 := false) (cs1 := [(ad, rd src (i + 1))]) (ET.eq (t_cmp (e_name 2 rfl) e_str cd_eqS) (by decide +kernel)) (fun h => by cases h) (fun _ => at_nil ?_)
      refine at_if (b0 := true) (cs1 := [(ad, rd src (i + 1))]) (ET.eq (t_cmp (e_name 2 rfl) e_str cd_neS) (by decide +kernel)) (fun _ => ?_) (fun h => by cases h)
      exact at_raise0G XE (hr8.mono (show 2 ≤ 8 by decide)) (.head _) (fun a h => h) (fun p hp => hp) (hMj _) kq
    | some c =>
      have hlt := lt_of_get hc
      refine at_if (b0 := decide (c ∈ alpha)) (cs1 := [(ad, rd src (i + 1))]) (t_val (EE.eq (e_call Kt.isLet (hr8.mono (by decide)) (a_cons (e_name 2 rfl) a_nil) (sg c) (by show 1 ≤ 100000; decide) rfl) (congrArg D.bl (isLet_c c)))) (fun h => ?_) (fun h => at_nil ?_)
      · have ha : c ∈ alpha := by simpa using h
        have hres : rdF (m + 1) (tl src) i = (some (.le c), i + 1) := by unfold rdF; rw [hc]; simp only; rw [if_pos ha]
        rw [hres] at kq
        exact at_end (d := (Fm.le c).o) (c1 := [(ad, rd src (i + 1))]) (e_sm (Kt.letter.at c ha) (hr8.mono (show 7 ≤ 8 by decide)) (a_cons (e_name 2 rfl) a_nil) sw0) rfl (.head _) kq
      have ha : c ∉ alpha := by simpa using h
      refine at_if (b0 := decide (c = 49) || decide (c = 48)) (cs1 := [(ad, rd src (i + 1))]) (ET.eq (t_ew (t_or (t_cmp (e_name 2 rfl) e_str cd_eqS) fun _ => t_or1 (t_cmp (e_name 2 rfl) e_str cd_eqS))) (by
        show (decide (sg c = "1") || decide (sg c = "0")) = _
        rw [t1, t0]
        by_cases h1 : c = 49
        · subst h1; simp
        · rw [sg_ne h1, decide_eq_false h1]
          by_cases h0 : c = 48
          · subst h0; simp
          · rw [sg_ne h0, decide_eq_false h0])) (fun h => ?_) (fun h => at_nil ?_)
      · by_cases h1 : c = 49
        · subst h1
          have hres : rdF (m + 1) (tl src) i = (some (.cst true), i + 1) := by unfold rdF; rw [hc]; simp only; rw [if_neg ha, if_pos trivial]
          rw [hres] at kq
          exact at_end (d := (Fm.cst true).o) (c1 := [(ad, rd src (i + 1))]) (e_if (p0 := true) (ET.eq (t_cmp (e_name 2 rfl) e_str cd_eqS) (by decide +kernel)) rfl (fun _ => e_sm0 (Kt.tru.at () trivial) (hr8.mono (show 7 ≤ 8 by decide)) sw0) fun h => by cases h) rfl (.head _) kq
        · have h0 : c = 48 := by simpa [h1] using h
          subst h0
          have hres : rdF (m + 1) (tl src) i = (some (.cst false), i + 1) := by unfold rdF; rw [hc]; simp only; rw [if_neg ha, if_neg (by decide), if_pos trivial]
          rw [hres] at kq
          exact at_end (d := (Fm.cst false).o) (c1 := [(ad, rd src (i + 1))]) (e_if (p0 := false) (ET.eq (t_cmp (e_name 2 rfl) e_str cd_eqS) (by decide +kernel)) rfl (fun h => by cases h) fun _ => e_sm0 (Kt.fal.at () trivial) (hr8.mono (show 7 ≤ 8 by decide)) sw0) rfl (.head _) kq
      have h1 : c ≠ 49 := fun z => by simp [z] at h
      have h0 : c ≠ 48 := fun z => by simp [z] at h
      refine at_if (b0 := decide (c = 45)) (cs1 := [(ad, rd src (i + 1))]) (ET.eq (t_cmp (e_name 2 rfl) e_str cd_eqS) (by
        show decide (sg c = "-") = _
        rw [tm]
        by_cases h2 : c = 45
        · subst h2; simp
        · rw [sg_ne h2, decide_eq_false h2])) (fun h => ?_) (fun h => at_nil ?_)
      · have h2 : c = 45 := by simpa using h
        subst h2
        have hres : rdF (m + 1) (tl src) i = rdN (rdF m (tl src) (i + 1)) := by
          conv => lhs; unfold rdF
          rw [hc]; simp only; rw [if_neg ha, if_neg h1, if_neg h0, if_pos trivial]
        rw [hres] at kq
        have Pm := ih1 ad src (i + 1) le (by omega)
        cases hq : rdF m (tl src) (i + 1) with
        | mk r j =>
          rw [hq] at kq Pm
          cases r with
          | some a =>
            obtain ⟨a1, a2, a3, a4⟩ := rdF_ok _ _ _ _ _ hq
            exact at_end (d := (Fm.bin .im a (.cst false)).o) (c1 := [(ad, rd src j)]) (e_neg' Kt.neg (hr8.mono (by decide)) ⟨a1, by omega⟩ (e_mec (d := a.o) (ns := rn) (gs := [.str src, .int ((i + 1 : Nat) : Int)]) Pm hr (e_name 0 rfl) (.head _) (a_cons ((e_bin (e_name 1 rfl) e_int bd_sub).eq (congrArg D.int hm1)) a_nil) (swA rfl))) rfl (.head _) kq
          | none =>
            obtain ⟨r, ho, _⟩ := (ud_own (X := cxOf (L2.CX P w) P w K mg base ["self", "room", "sign"] "Reader.formula" (defScope sRForm) f cdv A outer s H0 E) (cn := "Formula") (ns := fnames) (ds := (Fm.cst true).fs) Kt.neg (hr8.mono (show 7 ≤ 8 by decide)) (Fm.cst true) ⟨trivial, by decide⟩ (by rw [Fm.o_eq]))
            exact at_xretG (cs1 := [(ad, rd src j)]) (x_un (x_mec (ns := rn) (gs := [.str src, .int ((i + 1 : Nat) : Int)]) Pm hr (e_name 0 rfl) (.head _) (a_cons ((e_bin (e_name 1 rfl) e_int bd_sub).eq (congrArg D.int hm1)) a_nil) (swA rfl)) ho) (.head _) (fun a h => h) (fun p hp => hp) (hMj _) kq
      have h2 : c ≠ 45 := fun z => by simp [z] at h
      refine at_if (b0 := decide (c ≠ 40)) (cs1 := [(ad, rd src (i + 1))]) (ET.eq (t_cmp (e_name 2 rfl) e_str cd_neS) (by
        show (!decide (sg c = "(")) = _
        rw [tb]
        by_cases h2 : c = 40
        · subst h2; simp
        · rw [sg_ne h2, decide_eq_true h2]; rfl)) (fun h => ?_) (fun h => at_nil ?_)
      · have h3 : c ≠ 40 := by simpa using h
        have hres : rdF (m + 1) (tl src) i = (none, i + 1) := by unfold rdF; rw [hc]; simp only; rw [if_neg ha, if_neg h1, if_neg h0, if_neg h2, if_neg h3]
        rw [hres] at kq
        exact at_raise0G XE (hr8.mono (show 2 ≤ 8 by decide)) (.head _) (fun a h => h) (fun p hp => hp) (hMj _) kq
      · have h3 : c = 40 := by simpa using h
        subst h3
        have hres : rdF (m + 1) (tl src) i = rdP (rdF m (tl src)) (tl src) (i + 1) := by
          conv => lhs; unfold rdF
          rw [hc]; simp only; rw [if_neg ha, if_neg h1, if_neg h0, if_neg h2, if_pos trivial]
        rw [hres] at kq
        have Pm := ih2 ad src (i + 1) le (by omega)
        cases hq : rdP (rdF m (tl src)) (tl src) (i + 1) with
        | mk r j =>
          rw [hq] at kq Pm
          cases r with
          | some a => exact at_end (d := a.o) (c1 := [(ad, rd src j)]) (e_mec (d := a.o) (ns := rn) (gs := [.str src, .int ((i + 1 : Nat) : Int)]) Pm hr (e_name 0 rfl) (.head _) (a_cons ((e_bin (e_name 1 rfl) e_int bd_sub).eq (congrArg D.int hm1)) a_nil) (swA rfl)) rfl (.head _) kq
          | none => exact at_xretG (cs1 := [(ad, rd src j)]) (x_mec (ns := rn) (gs := [.str src, .int ((i + 1 : Nat) : Int)]) Pm hr (e_name 0 rfl) (.head _) (a_cons ((e_bin (e_name 1 rfl) e_int bd_sub).eq (congrArg D.int hm1)) a_nil) (swA rfl)) (.head _) (fun a h => h) (fun p hp => hp) (hMj _) kq
theorem ok_rpair {f : Addr} {fd : FuncData} (F : Fun K "pair" "Reader.pair" sPair f fd) (hC : ∃ C, mg "Reader" = some (.ref C) ∧ Cls K C ∧ Meth K C "pair" f) (hb : Binds K fd ["self", "room"] []) (Kt : RdKit P w K mg base) (n k : Nat) (hk : 8 ≤ k) (ih : RForm P w K mg base n k) : RPair P w K mg base n (k + 1) := fun ad src i le hi => by
  refine me_of hC F scPair hb fun cdv A outer s H0 E M Q hr hM kq => ?_
  have hMj : ∀ j, ∀ p ∈ [(ad, rd src j)], M p.1 := fun j p hp => by
    rcases List.mem_singleton.mp hp with rfl
    exact hM (ad, rd src i) (.head _)
  have hr8 : Room 8 _ := hr.mono hk
  have hs2 : src.length = (tl src).length := len_tl src
  have P1 := ih ad src i le hi
  cases hq : rdF n (tl src) i with
  | mk r j =>
  rw [hq] at P1
  cases r with
  | none =>
    have hres : rdP (rdF n (tl src)) (tl src) i = (none, j) := by unfold rdP; rw [hq]
    rw [hres] at kq
    exact at_xsetG (cs1 := [(ad, rd src j)]) (x_mec (ns := rn) (gs := [.str src, .int (i : Nat)]) P1 hr (e_name 0 rfl) (.head _) (a_cons (e_name 1 rfl) a_nil) (swA rfl)) (.head _) (fun a h => h) (fun p hp => hp) (hMj _) kq 2 scPair.nd
  | some a =>
    obtain ⟨a1, a2, a3, a4⟩ := rdF_ok _ _ _ _ _ hq
    refine at_set 2 (d := a.o) (cs1 := [(ad, rd src j)]) (e_mec (ns := rn) (gs := [.str src, .int (i : Nat)]) P1 hr (e_name 0 rfl) (.head _) (a_cons (e_name 1 rfl) a_nil) (swA rfl)) ?_ scPair.nd
    by_cases h32 : (tl src)[j]? = some 32
    case neg =>
      have hres : rdP (rdF n (tl src)) (tl src) i = (none, j) := by unfold rdP; rw [hq]; simp only; rw [if_neg h32]
      rw [hres] at kq
      exact at_xexprG (cs1 := [(ad, rd src j)]) (x_mec (ns := rn) (gs := [.str src, .int (j : Nat)]) (Kt.skipX ad src " " j (by rw [tsp]; simp) (by omega) (by omega) (by rw [tsp, stB1, decide_eq_false h32])) (hr8.mono (by decide)) (e_name 0 rfl) (.head _) (a_cons e_str a_nil) (swA rfl)) (.head _) (fun a h => h) (fun p hp => hp) (hMj _) kq
    have hj := lt_of_get h32
    refine at_expr (d := .non) (cs1 := [(ad, rd src (j + 1))]) (e_mec (ns := rn) (gs := [.str src, .int (j : Nat)]) (Kt.skipO ad src " " j (by rw [tsp]; simp) (by omega) (by omega) (by decide +kernel) (by rw [tsp, stB1, decide_eq_true h32])) (hr8.mono (by decide)) (e_name 0 rfl) (.head _) (a_cons e_str a_nil) (swA rfl)) ?_
    refine at_set 3 (d := .str (sgO (tl src)[j + 1]?)) (cs1 := [(ad, rd src (j + 1))]) (e_mec0 (ns := rn) (gs := [.str src, .int ((j + 1 : Nat) : Int)]) (Kt.sign ad src (j + 1) (by omega)) (hr8.mono (by decide)) (e_name 0 rfl) (.head _) (swA rfl)) ?_ scPair.nd
    obtain ⟨tn1, tn2⟩ := tOf_ne (tl src)[j + 1]?
    cases hop : opAt (tl src) (j + 1) with
    | none =>
      have hres : rdP (rdF n (tl src)) (tl src) i = (none, j + 1) := by unfold rdP; rw [hq]; simp only; rw [if_pos h32, hop]
      rw [hres] at kq
      exact at_xexprG (cs1 := [(ad, rd src (j + 1))]) (x_mec (ns := rn) (gs := [.str src, .int ((j + 1 : Nat) : Int)]) (Kt.skipX ad src (tOf (tl src)[j + 1]?) (j + 1) tn1 (by omega) (by omega) (opAt_none hop)) (hr8.mono (by decide)) (e_name 0 rfl) (.head _) (a_cons (EE.eq (e_ite (x := D.str "->") (t_cmp (e_name 3 rfl) e_str cd_eqS) (fun _ => e_str) fun _ => e_ite (x := D.str (sgO (tl src)[j + 1]?)) (y := D.str "&") (t_cmp (e_name 3 rfl) (e_tup (a_cons e_str (a_cons e_str a_nil))) cd_inT2) (fun _ => e_name 3 rfl) fun _ => e_str) (arg_t _)) a_nil) (swA rfl)) (.head _) (fun a h => h) (fun p hp => hp) (hMj _) kq
    | some oj =>
      obtain ⟨o, j2⟩ := oj
      obtain ⟨o1, o2, o3, o4⟩ := opAt_some hop
      refine at_expr (d := .non) (cs1 := [(ad, rd src j2)]) (e_mec (ns := rn) (gs := [.str src, .int ((j + 1 : Nat) : Int)]) (o2 ▸ Kt.skipO ad src (tOf (tl src)[j + 1]?) (j + 1) tn1 (by omega) (by omega) tn2 o1) (hr8.mono (by decide)) (e_name 0 rfl) (.head _) (a_cons (EE.eq (e_ite (x := D.str "->") (t_cmp (e_name 3 rfl) e_str cd_eqS) (fun _ => e_str) fun _ => e_ite (x := D.str (sgO (tl src)[j + 1]?)) (y := D.str "&") (t_cmp (e_name 3 rfl) (e_tup (a_cons e_str (a_cons e_str a_nil))) cd_inT2) (fun _ => e_name 3 rfl) fun _ => e_str) (arg_t _)) a_nil) (swA rfl)) ?_
      rw [o3]
      by_cases g32 : (tl src)[j2]? = some 32
      case neg =>
        have hres : rdP (rdF n (tl src)) (tl src) i = (none, j2) := by unfold rdP; rw [hq]; simp only; rw [if_pos h32, hop]; simp only; rw [if_neg g32]
        rw [hres] at kq
        exact at_xexprG (cs1 := [(ad, rd src j2)]) (x_mec (ns := rn) (gs := [.str src, .int (j2 : Nat)]) (Kt.skipX ad src " " j2 (by rw [tsp]; simp) (by omega) (by omega) (by rw [tsp, stB1, decide_eq_false g32])) (hr8.mono (by decide)) (e_name 0 rfl) (.head _) (a_cons e_str a_nil) (swA rfl)) (.head _) (fun a h => h) (fun p hp => hp) (hMj _) kq
      have gj := lt_of_get g32
      refine at_expr (d := .non) (cs1 := [(ad, rd src (j2 + 1))]) (e_mec (ns := rn) (gs := [.str src, .int (j2 : Nat)]) (Kt.skipO ad src " " j2 (by rw [tsp]; simp) (by omega) (by omega) (by decide +kernel) (by rw [tsp, stB1, decide_eq_true g32])) (hr8.mono (by decide)) (e_name 0 rfl) (.head _) (a_cons e_str a_nil) (swA rfl)) ?_
      have P2 := ih ad src (j2 + 1) le (by omega)
      cases hq2 : rdF n (tl src) (j2 + 1) with
      | mk r2 j3 =>
      rw [hq2] at P2
      cases r2 with
      | none =>
        have hres : rdP (rdF n (tl src)) (tl src) i = (none, j3) := by unfold rdP; rw [hq]; simp only; rw [if_pos h32, hop]; simp only; rw [if_pos g32, hq2]
        rw [hres] at kq
        exact at_xsetG (cs1 := [(ad, rd src j3)]) (x_mec (ns := rn) (gs := [.str src, .int ((j2 + 1 : Nat) : Int)]) P2 hr (e_name 0 rfl) (.head _) (a_cons (e_name 1 rfl) a_nil) (swA rfl)) (.head _) (fun a h => h) (fun p hp => hp) (hMj _) kq 4 scPair.nd
      | some b =>
        obtain ⟨b1, b2, b3, b4⟩ := rdF_ok _ _ _ _ _ hq2
        refine at_set 4 (d := b.o) (cs1 := [(ad, rd src j3)]) (e_mec (ns := rn) (gs := [.str src, .int ((j2 + 1 : Nat) : Int)]) P2 hr (e_name 0 rfl) (.head _) (a_cons (e_name 1 rfl) a_nil) (swA rfl)) ?_ scPair.nd
        by_cases h41 : (tl src)[j3]? = some 41
        case neg =>
          have hres : rdP (rdF n (tl src)) (tl src) i = (none, j3) := by unfold rdP; rw [hq]; simp only; rw [if_pos h32, hop]; simp only; rw [if_pos g32, hq2]; simp only; rw [if_neg h41]
          rw [hres] at kq
          exact at_xexprG (cs1 := [(ad, rd src j3)]) (x_mec (ns := rn) (gs := [.str src, .int (j3 : Nat)]) (Kt.skipX ad src ")" j3 (by rw [tcl]; simp) (by omega) (by omega) (by rw [tcl, stB1, decide_eq_false h41])) (hr8.mono (by decide)) (e_name 0 rfl) (.head _) (a_cons e_str a_nil) (swA rfl)) (.head _) (fun a h => h) (fun p hp => hp) (hMj _) kq
        have hj3 := lt_of_get h41
        have hres : rdP (rdF n (tl src)) (tl src) i = (some (.bin o a b), j3 + 1) := by unfold rdP; rw [hq]; simp only; rw [if_pos h32, hop]; simp only; rw [if_pos g32, hq2]; simp only; rw [if_pos h41]
        rw [hres] at kq
        refine at_expr (d := .non) (cs1 := [(ad, rd src (j3 + 1))]) (e_mec (ns := rn) (gs := [.str src, .int (j3 : Nat)]) (Kt.skipO ad src ")" j3 (by rw [tcl]; simp) (by omega) (by omega) (by decide +kernel) (by rw [tcl, stB1, decide_eq_true h41])) (hr8.mono (by decide)) (e_name 0 rfl) (.head _) (a_cons e_str a_nil) (swA rfl)) ?_
        have hsz : a.sz + b.sz < 10000 := by
          have : j + 1 < j2 := by
            have tp : 0 < (tl (tOf (tl src)[j + 1]?)).length := List.length_pos_iff.mpr tn1
            omega
          omega
        refine at_if (b0 := decide (o = .an)) (cs1 := [(ad, rd src (j3 + 1))]) (ET.eq (t_cmp (e_name 3 rfl) e_str cd_eqS) (by cases o <;> decide +kernel)) (fun h => ?_) (fun h => at_nil ?_)
        · obtain rfl : o = .an := by simpa using h
          exact at_end (d := (Fm.bin .an a b).o) (c1 := [(ad, rd src (j3 + 1))]) (e_opF Kt.and Kt.sf (hr8.mono (by decide)) ⟨a1, b1, hsz⟩ (e_name 2 rfl) (e_name 4 rfl)) rfl (.head _) kq
        · refine at_end (d := (Fm.bin o a b).o) (c1 := [(ad, rd src (j3 + 1))]) (e_if (b := _) (t_cmp (e_name 3 rfl) e_str cd_eqS) rfl (fun h2 => ?_) (fun h2 => ?_)) rfl (.head _) kq
          · cases o with
            | orr => exact e_opF Kt.or Kt.sf (hr8.mono (by decide)) ⟨a1, b1, hsz⟩ (e_name 2 rfl) (e_name 4 rfl)
            | an => simp at h
            | im => exact absurd h2 (by decide +kernel)
          · cases o with
            | im => exact e_opF Kt.shr Kt.sf (hr8.mono (by decide)) ⟨a1, b1, hsz⟩ (e_name 2 rfl) (e_name 4 rfl)
            | an => simp at h
            | orr => exact absurd h2 (by decide +kernel)
theorem all_read {ff fp C : Addr} {fdf fdp : FuncData} (F1 : Fun K "formula" "Reader.formula" sRForm ff fdf) (h1 : ∃ C, mg "Reader" = some (.ref C) ∧ Cls K C ∧ Meth K C "formula" ff) (b1 : Binds K fdf ["self", "room"] []) (F2 : Fun K "pair" "Reader.pair" sPair fp fdp) (h2 : ∃ C, mg "Reader" = some (.ref C) ∧ Cls K C ∧ Meth K C "pair" fp) (b2 : Binds K fdp ["self", "room"] []) (T : RdT w K mg C) (Kt : RdKit P w K mg base) :
    ∀ n, RForm P w K mg base n (9 + 2 * n) ∧ RPair P w K mg base n (10 + 2 * n) := by
  intro n
  induction n with
  | zero =>
    have z := ok_rform F1 h1 b1 T Kt 0 8 (Nat.le_refl _) fun m h => by cases h
    exact ⟨z, ok_rpair F2 h2 b2 Kt 0 9 (by decide) z⟩
  | succ n ih =>
    have z := ok_rform F1 h1 b1 T Kt (n + 1) (10 + 2 * n) (by omega) fun m h => by
      cases h
      exact ⟨fun ad src i le hi => (ih.1 ad src i le hi).up' (by omega), ih.2⟩
    have e : 9 + 2 * (n + 1) = 10 + 2 * n + 1 := by omega
    have e2 : 10 + 2 * (n + 1) = 10 + 2 * n + 1 + 1 := by omega
    rw [e, e2]
    exact ⟨z, ok_rpair F2 h2 b2 Kt (n + 1) (10 + 2 * n + 1) (by omega) z⟩
/-! ### read_formula -/
abbrev ReadX (P : Program) (w : World) (K : PySem.W.Frag) (mg : Str → Option Value) (base : Heap) (k : Nat) : Prop := ∀ s : Str, s.length ≤ 4000 → Fn P w K mg base "read_formula" k [.str s] [] (outF (readB (tl s))) []
abbrev ReadN (P : Program) (w : World) (K : PySem.W.Frag) (mg : Str → Option Value) (base : Heap) (k : Nat) : Prop := ∀ (d : D) (t : String), tyN d = some t → kitB t "str" = some false → Fn P w K mg base "read_formula" k [d] [] (.err badTx) []
theorem scReadF : FnScope ["text", "reader", "found"] ["text"] (defScope sReadF) := ⟨rfl, rfl, rfl, by decide +kernel, rfl, by decide +kernel, by decide +kernel⟩
theorem ok_readN {f XC : Addr} {fd : FuncData} (F : Fun K "read_formula" "read_formula" sReadF f fd) (hm : mg "read_formula" = some (.ref f)) (hb : Binds K fd ["text"] []) (B : Blt mg) (XE : Ox.Err0 P w K mg "InvalidText" "InvalidText" XC) : ReadN P w K mg base 3 := fun d t ht hk => by
  refine fn_of' F hm scReadF hb fun cdv A outer s H0 E M Q hr hM kq => ?_
  refine at_if (b0 := true) (cs1 := []) (t_not (k0 := false) (t_val (e_blt (kd_isi ht hk) (a_cons (e_name 0 rfl) (a_cons (e_gty (t := "str") B.str) a_nil)) B.isinstance))) (fun _ => ?_) (fun h => by cases h)
  exact at_raise0G XE (hr.mono (show 2 ≤ 2 by decide)) (.head _) (fun a h => h) (fun p hp => hp) (by simp) kq
theorem ok_readX {f C CF XC : Addr} {fd : FuncData} (F : Fun K "read_formula" "read_formula" sReadF f fd) (hm : mg "read_formula" = some (.ref f)) (hb : Binds K fd ["text"] []) (B : Blt mg) (T : RdT w K mg C) (MR : MkR P w K mg base 1) (RF : RForm P w K mg base 60 129) (PT : M0D P w K mg base "text" (fun f => .str f.t) 1) (hmo : ∃ mc u, mg "Formula" = some (.ref CF) ∧ ClX.CRead K CF mc ∧ ClX.CVal K CF mc "MOST_NESTED" (.int 60) u) (XE : Ox.Err0 P w K mg "InvalidText" "InvalidText" XC) : ReadX P w K mg base 131 := fun src le => by
  refine fn_of' F hm scReadF hb (k := 130) fun cdv A outer s H0 E M Q hr hM kq => ?_
  have hs2 : src.length = (tl src).length := len_tl src
  obtain ⟨mc, u, mo1, mo2, mo3⟩ := hmo
  refine at_if (b0 := false) (cs1 := []) ?_ (fun h => by cases h) (fun _ => at_nil ?_)
  · exact t_not (k0 := true) (t_val (e_blt (kd_isi (t := "str") (n := "str") (b := true) rfl (by decide +kernel)) (a_cons (e_name 0 rfl) (a_cons (e_gty (t := "str") B.str) a_nil)) B.isinstance))
  refine at_setC (ws := [.str src, .int ((0 : Nat) : Int)]) 1 MR (hr.mono (by decide)) (a_cons (e_name 0 rfl) a_nil) src trivial rfl rfl (fun q => ?_) scReadF.nd
  refine at_eqC (cs2 := [(q, rd src 0)]) ?_ rfl
  have P1 := RF q src 0 le (by omega)
  cases hq : rdF 60 (tl src) 0 with
  | mk r j =>
  rw [hq] at P1
  cases r with
  | none =>
    have hres : readB (tl src) = none := by unfold readB; rw [hq]
    rw [hres] at kq
    exact at_xsetG (c2 := []) (cs1 := [(q, rd src j)]) (x_mec (ns := rn) (gs := [.str src, .int ((0 : Nat) : Int)]) P1 (hr.mono (by decide)) (e_name 1 rfl) (.head _) (a_cons (e_ccon mo1 mo2 mo3) a_nil) (swA rfl)) (.head _) (fun a h => .inl h) (by simp) (by simp) kq 2 scReadF.nd
  | some g =>
    obtain ⟨a1, a2, a3, a4⟩ := rdF_ok _ _ _ _ _ hq
    have hl := g.t_len
    refine at_set 2 (d := g.o) (cs1 := [(q, rd src j)]) (e_mec (ns := rn) (gs := [.str src, .int ((0 : Nat) : Int)]) P1 (hr.mono (by decide)) (e_name 1 rfl) (.head _) (a_cons (e_ccon mo1 mo2 mo3) a_nil) (swA rfl)) ?_ scReadF.nd
    refine at_if (b0 := !(decide (j = (tl src).length) && decide (tl g.t = tl src))) (cs1 := [(q, rd src j)]) (ET.eq (t_ew (t_or (t_cmp (e_fldc (e_name 1 rfl) (.head _) T.hm T.cl (T.no _ (by decide +kernel)) 1 (by decide +kernel) rfl) (e_blt (kd_lenS (Nat.le_trans (by omega : src.length ≤ 100000) (by decide))) (a_cons (e_name 0 rfl) a_nil) B.len) cd_neI) fun _ => t_or1 (t_cmp (e_fm PT (hr.mono (by decide)) (e_name 2 rfl)) (e_name 0 rfl) cd_neS))) (by
      rw [hs2, Bool.not_and]
      congr 1
      · congr 1
        apply decide_eq_decide.mpr
        constructor <;> intro h <;> omega
      · congr 1
        apply decide_eq_decide.mpr
        exact ⟨fun h => by rw [h], fun h => ext_tl h⟩)) (fun h => ?_) (fun h => at_nil ?_)
    · have hres : readB (tl src) = none := by
        unfold readB; rw [hq]; simp only
        rw [if_neg (fun z => by rw [decide_eq_true z.1, decide_eq_true z.2] at h; cases h)]
      rw [hres] at kq
      exact at_raise0G (c2 := []) XE (hr.mono (show 2 ≤ 130 by decide)) (.head _) (fun a h => .inl h) (by simp) (by simp) kq
    · have hres : readB (tl src) = some g := by
        unfold readB; rw [hq]; simp only
        rw [if_pos]
        simpa using h
      rw [hres] at kq
      exact at_done (M0 := M) (c2 := []) (e_name 2 rfl) (.head _) (fun a h => .inl h) (by simp) (by simp) rfl kq
end
end Od

set_option Elab.async false
set_option linter.all false
set_option maxRecDepth 100000
set_option maxHeartbeats 4000000
/-! Ti: the text determines the formula; formulas' tuples as plain data. -/
namespace Od
open PySem L2 TL PySem.Spec
theorem tl_cst (b : Bool) : tl (Fm.cst b).t = [if b then 49 else 48] := by cases b <;> decide +kernel
theorem tl_le (c : Nat) : tl (Fm.le c).t = [c] := rfl
/-- an operator's sign tells it -/
theorem os_inj {o o' : Op} {r r' : List Nat} (h : tl o.s ++ r = tl o'.s ++ r') : o = o' ∧ r = r' := by
  rw [tl_os, tl_os] at h
  cases o <;> cases o' <;> simp [opt] at h <;> first | exact ⟨rfl, h⟩ | (exact absurd h.1 (by decide)) | omega
/-- no formula's text begins another's -/
theorem t_pre : ∀ (f g : Fm), f.ok → g.ok → ∀ r r' : List Nat, tl f.t ++ r = tl g.t ++ r' → f = g ∧ r = r' := by
  intro f
  induction f with
  | cst b =>
    intro g _ hg r r' h
    rw [tl_cst] at h
    cases g with
    | cst b' =>
      rw [tl_cst] at h
      cases b <;> cases b' <;> simp at h
      · exact ⟨rfl, h⟩
      · exact ⟨rfl, h⟩
    | le c =>
      rw [tl_le] at h
      have := let_ge hg
      simp at h
      have h1 := h.1
      split at h1 <;> omega
    | bin o a b' =>
      by_cases hn : o = .im ∧ b' = .cst false
      · obtain ⟨rfl, rfl⟩ := hn
        rw [tl_neg] at h
        simp at h
        have h1 := h.1
        split at h1 <;> omega
      · rw [tl_bin hn] at h
        simp at h
        have h1 := h.1
        split at h1 <;> omega
  | le c =>
    intro g hf hg r r' h
    rw [tl_le] at h
    have hc := let_ge hf
    cases g with
    | cst b' =>
      rw [tl_cst] at h
      simp at h
      have h1 := h.1
      split at h1 <;> omega
    | le c' =>
      rw [tl_le] at h
      simp at h
      obtain ⟨rfl, h⟩ := h
      exact ⟨rfl, h⟩
    | bin o a b' =>
      by_cases hn : o = .im ∧ b' = .cst false
      · obtain ⟨rfl, rfl⟩ := hn
        rw [tl_neg] at h
        simp at h
        omega
      · rw [tl_bin hn] at h
        simp at h
        omega
  | bin o a b iha ihb =>
    intro g hf hg r r' h
    by_cases hn : o = .im ∧ b = .cst false
    · obtain ⟨rfl, rfl⟩ := hn
      rw [tl_neg] at h
      cases g with
      | cst b' =>
        rw [tl_cst] at h
        simp at h
        have h1 := h.1
        split at h1 <;> omega
      | le c' =>
        rw [tl_le] at h
        have := let_ge hg
        simp at h
        omega
      | bin o' a' b' =>
        by_cases hn' : o' = .im ∧ b' = .cst false
        · obtain ⟨rfl, rfl⟩ := hn'
          rw [tl_neg] at h
          simp only [List.cons_append, List.cons.injEq, true_and] at h
          obtain ⟨rfl, hr⟩ := iha a' hf.1 hg.1 r r' h
          exact ⟨rfl, hr⟩
        · rw [tl_bin hn'] at h
          simp at h
    · rw [tl_bin hn] at h
      cases g with
      | cst b' =>
        rw [tl_cst] at h
        simp at h
        have h1 := h.1
        split at h1 <;> omega
      | le c' =>
        rw [tl_le] at h
        have := let_ge hg
        simp at h
        omega
      | bin o' a' b' =>
        by_cases hn' : o' = .im ∧ b' = .cst false
        · obtain ⟨rfl, rfl⟩ := hn'
          rw [tl_neg] at h
          simp at h
        · rw [tl_bin hn'] at h
          unfold inText at h
          simp only [List.cons_append, List.cons.injEq, true_and, List.append_assoc] at h
          obtain ⟨rfl, h1⟩ := iha a' hf.1 hg.1 _ _ h
          obtain ⟨rfl, h2⟩ := os_inj h1
          obtain ⟨rfl, h3⟩ := ihb b' hf.2 hg.2 _ _ h2
          simp at h3
          exact ⟨rfl, h3⟩
theorem t_inj {f g : Fm} (hf : f.ok) (hg : g.ok) : f.t = g.t ↔ f = g := ⟨fun h => (t_pre f g hf hg [] [] (by rw [h])).1, fun h => by rw [h]⟩
/-- the law's tuple as plain data -/
def pyF : Fm → PyData
  | .cst b => .tuple [.str (cw b)]
  | .le c => .tuple [.str "letter", .str (sg c)]
  | .bin o a b => .tuple [.str o.w, pyF a, pyF b]
theorem toPy_d : ∀ f : Fm, toPy f.d = some (pyF f)
  | .cst b => rfl
  | .le c => rfl
  | .bin o a b => by
    show toPy (.tup [.str o.w, a.d, b.d]) = _
    simp only [toPy, toPys, toPy_d a, toPy_d b, Option.bind_some, Option.map_some]
    rfl
theorem cw_inj {b b' : Bool} : cw b = cw b' ↔ b = b' := by cases b <;> cases b' <;> simp <;> decide +kernel
theorem ow_inj {o o' : Op} : o.w = o'.w ↔ o = o' := by cases o <;> cases o' <;> simp <;> decide +kernel
theorem eqv_F : ∀ f g : Fm, PyData.eqv (pyF f) (pyF g) = decide (f = g)
  | .cst b, .cst b' => by rw [Bool.eq_iff_iff]; simp [pyF, PyData.eqv, PyData.eqvAll, cw_inj]
  | .cst b, .le c => by simp [pyF, PyData.eqv, PyData.eqvAll]
  | .cst b, .bin o x y => by simp [pyF, PyData.eqv, PyData.eqvAll]
  | .le c, .cst b => by simp [pyF, PyData.eqv, PyData.eqvAll]
  | .le c, .le c' => by
    have : (sg c = sg c') ↔ c = c' := ⟨fun h => by simpa using congrArg tl h, fun h => by rw [h]⟩
    rw [Bool.eq_iff_iff]; simp [pyF, PyData.eqv, PyData.eqvAll, this]
  | .le c, .bin o x y => by
    have h : (("letter" : Str) == o.w) = false := by cases o <;> decide +kernel
    rw [decide_eq_false (show ¬ Fm.le c = .bin o x y from fun z => by cases z)]
    show PyData.eqvAll [.str "letter", .str (sg c)] [.str o.w, pyF x, pyF y] = false
    rw [PyData.eqvAll, PyData.eqv, h, Bool.false_and]
  | .bin o a b, .cst b' => by simp [pyF, PyData.eqv, PyData.eqvAll]
  | .bin o a b, .le c => by
    have h : (o.w == ("letter" : Str)) = false := by cases o <;> decide +kernel
    rw [decide_eq_false (show ¬ Fm.bin o a b = .le c from fun z => by cases z)]
    show PyData.eqvAll [.str o.w, pyF a, pyF b] [.str "letter", .str (sg c)] = false
    rw [PyData.eqvAll, PyData.eqv, h, Bool.false_and]
  | .bin o a b, .bin o' a' b' => by
    have h1 := eqv_F a a'
    have h2 := eqv_F b b'
    simp only [pyF, PyData.eqv, PyData.eqvAll, h1, h2, Bool.and_true]
    rw [Bool.eq_iff_iff]
    simp [ow_inj]
termination_by f _ => sizeOf f
theorem depth_F : ∀ f : Fm, PyData.depth (pyF f) = f.nest
  | .cst b => rfl
  | .le c => rfl
  | .bin o a b => by
    have h1 := depth_F a
    have h2 := depth_F b
    simp only [pyF, PyData.depth, PyData.depthAll, h1, h2, Fm.nest]
    omega
theorem lay_F : ∀ f : Fm, f.ok → PyData.canLay0 (pyF f) = true
  | .cst b, _ => by cases b <;> decide +kernel
  | .le c, h => by
    have hc : c < 1114112 := by
      obtain ⟨i, hi, rfl⟩ := List.mem_map.mp (show c ∈ alpha from h)
      have := List.mem_range.mp hi
      omega
    have h1 : PyData.strOk ("letter" : Str) = true := by decide +kernel
    have h2 : PyData.strOk (sg c) = true := by simpa [PyData.strOk, sg] using hc
    simp only [pyF, PyData.canLay0, PyData.canLayAll0, h1, h2, Bool.and_self]
  | .bin o a b, h => by
    have h1 := lay_F a h.1
    have h2 := lay_F b h.2
    have h3 : PyData.strOk o.w = true := by cases o <;> decide +kernel
    simp only [pyF, PyData.canLay0, PyData.canLayAll0, h1, h2, h3, Bool.and_self]
theorem shaped_F {f : Fm} (h : f.ok) (hn : f.nest ≤ 64) : PySem.SeqAt.shaped (pyF f) = true := by
  unfold PySem.SeqAt.shaped
  rw [lay_F f h, depth_F]
  simpa using hn
theorem cd_eqFd {X : Cx} {f g : Fm} (hu : X.A.units + 64 < cLine) (hf : f.ok ∧ f.nest ≤ 64) (hg : g.ok ∧ g.nest ≤ 64) : CmpD X .Eq f.d g.d (decide (f = g)) :=
  (cd_eqD hu (toPy_d f) (toPy_d g) (shaped_F hf.1 hf.2) (shaped_F hg.1 hg.2)).eq (eqv_F f g)
end Od

set_option Elab.async false
set_option linter.all false
set_option maxRecDepth 100000
set_option maxHeartbeats 4000000
/-! Od28: xs[::-1]; {} as a value; name = dict(pairs), which changes from there on. -/
namespace Od
open PySem L2
theorem Rs.rev {K : PySem.W.Frag} {mg : Str → Option Value} {M : Addr → Prop} {H : Hp} : ∀ {xs : List V} {ds : List D}, Rs K mg M H xs ds → Rs K mg M H xs.reverse ds.reverse
  | [], [], _ => .nil
  | x :: xs, d :: ds, h => by
    unfold Rs at h
    rw [List.reverse_cons, List.reverse_cons]
    exact (Rs.rev h.2).append (.cons h.1 .nil)
  | [], _ :: _, h => by unfold Rs at h; exact h.elim
  | _ :: _, [], h => by unfold Rs at h; exact h.elim
section
variable {X : Cx} {M : Addr → Prop} {e : DE} {cs cs1 : Cs} {fr : Frs} {D0 : Ends} {pos p p1 p2 p3 pos' : Pos} {a : Expr} {rest : List Stmt} {ds : List D} {ks : List Key} {n y : Str}
theorem e_rev {k : Nat} (ha : EE X M e cs a (.lst ds) cs1) : EE X M e cs (.Subscript a (.Slice none none (some (.UnaryOp .USub (.Constant (.int 1) k p1) p2)) p3) pos) (.lst ds.reverse) cs1 where
  dm := ha.dm
  k := fun σ H Q S k => we_of (pe_revL pe_w) (ha.k σ H _ S fun v H1 S1 x1 r1 => by
    obtain ⟨ad, xs, rfl, nm, hx, rs⟩ := r_lst r1
    exact ⟨ad, xs, rfl, .of hx, fun q hq => fin S1 x1 k _ _ (Ext.new hq) (r_newl S1.mt hq rs.rev)⟩)
theorem e_dic0 : EE X M e cs (.Dict [] [] pos) (.dic [] []) cs where
  dm := rfl
  k := fun σ H Q S k => we_of pe_dnewK fun q hq => fin S (Ext.refl _ _) k _ _ (Ext.new hq) (by
    unfold R
    exact ⟨q, [], rfl, new_m S.mt hq, .inl upd_same, rfl, .nil⟩)
/-- name = dict(pairs) -/
theorem at_setDP (i : Nat) {xs : List D} (ha : EE X M e cs a (.lst xs) cs1) (hx : xs = kpairs ks ds) (hl : ks.length = ds.length) (hn : ks.Nodup) (hd : X.mg "dict" = none)
    (kk : ∀ q, ¬ M q → At X (fun b => M b ∨ b = q) (e.set i (some (.ref q))) ((q, .dic ks ds) :: cs1) fr (wSs X rest D0)) (hN : X.N.Nodup) (hi : X.N[i]? = some y := by rfl) (hxl : Loc X.env.scope y := by first | exact .inl rfl | exact .inr rfl)
    (hs : swapsWith (.Call (.Name "dict" p) [a] [] pos) (some (.Name y pos')) p1.line X.env = pure false := by rfl) (hf : X.fn y = true ∨ X.env.scope.names.lookup y = some .local := by first | exact .inl rfl | exact .inr rfl) (hc : X.calm = true := by rfl) (hg : Gl X "dict" := by rfl)
    (he : starEach [a] X.env = (false, eval a X.env) :: starEach [] X.env := by rfl) (hpl : (backTo pos (starEach [] X.env)).any (·.1) = false := by rfl) : At X M e cs fr (wSs X (.Assign [.Name y pos'] (.Call (.Name "dict" p) [a] [] pos) p1 :: rest) D0) := fun σ H S xx l =>
  wss_of (pss_cons (ps_set hN hi hxl (pe_callTy (call_dictP hc) hg hd (by decide +kernel) (pa_cons pe_w pa_nil he) (by decide) (by decide) he hpl) hs hf) pss_w) (ha.k σ H _ S fun v H1 S1 x1 r1 => by
    obtain ⟨ad, ws, rfl, nm, hw, ra⟩ := r_lst r1
    subst hx
    obtain ⟨ps, us, rfl, e2, e3, e4⟩ := pairs_rel hl ra
    refine ⟨ad, ps, ks.zip us, rfl, .of hw, e3, fun q hq => ?_⟩
    have hm : mergeK [] (ks.zip us) = ks.zip us := by
      rw [mergeK_new (ks.zip us) [] (by rw [List.nil_append, List.map_fst_zip (by omega)]; exact hn)]; rfl
    rw [hm]
    have kp : ∀ b o, H1 b = some o → upd H1 q (.dK (ks.zip us)) b = some o := fun b o h => by rw [upd_ne (ne_of_none h hq)]; exact h
    have mr : ∀ b, ¬ M b → H1 b ≠ none → ¬ (M b ∨ b = q) := fun b h1 h2 z => z.elim h1 fun z => h2 (z ▸ hq)
    have S2 := S1.mark (p := q) (o := .dK (ks.zip us)) hq
    have S3 : Sit X.K X.mg (fun b => M b ∨ b = q) σ (upd H1 q (.dK (ks.zip us))) e ((q, .dic ks ds) :: cs1) := by
      refine ⟨S2.mt, S2.len, S2.env, fun c hc => ?_, ?_⟩
      · rcases List.mem_cons.mp hc with rfl | hc
        · exact ⟨.inr rfl, us, upd_same, e2, Rs.ext (fun b o _ h => kp b o h) mr _ e4⟩
        · exact S2.cel c hc
      · show (q :: cs1.map (·.1)).Nodup
        refine List.nodup_cons.mpr ⟨fun z => ?_, S1.nd⟩
        obtain ⟨c, hc, e⟩ := List.mem_map.mp z
        exact (S1.cel c hc).2.ne (e ▸ hq)
    refine kk q (new_m S1.mt hq) _ _ (S3.set i (by simp [R])) ?_ ?_
    · exact ext_on (ext_on xx l x1) (lo_of l ha.dm) (Ext.new hq)
    · intro f0 hf0 b hb
      have xx1 := ext_on xx l x1
      rcases List.mem_cons.mp hb with rfl | hb
      · by_cases h : b ∈ f0.1
        · exact .inl h
        · right
          cases h2 : f0.2 b with
          | none => rfl
          | some o =>
            have := xx1 f0 hf0 b o h2 h
            rw [hq] at this; cases this
      · exact lo_of l ha.dm f0 hf0 b hb)
end
end Od

set_option Elab.async false
set_option linter.all false
set_option maxRecDepth 100000
set_option maxHeartbeats 4000000
/-! Od29: min of two texts. -/
namespace Od
open PySem L2
def strAt (xs : Array (Str × Tok)) (i : Nat) : Str := (xs[i]?.map (·.1)).getD Str.empty
def strItems (xs : Array (Str × Tok)) : Array Value := xs.map fun p => .str p.1 p.2
theorem strItems_at {xs : Array (Str × Tok)} {i : Nat} {v : Value} (h : (strItems xs)[i]? = some v) : ∃ t, v = .str (strAt xs i) t := by
  simp only [strItems, Array.getElem?_map, Option.map_eq_some_iff] at h
  obtain ⟨p, hp, rfl⟩ := h
  exact ⟨p.2, by simp [strAt, hp]⟩
theorem cmp_strs_lt {prog : Program} {w : World} {A : Around} {P : Nat → Value → Prop} (val : Nat → Str) (hval : ∀ i v, P i v → ∃ t, v = .str (val i) t) :
    CmpOf prog w A .Lt P (fun i j => decide ((val i).cps.toList < (val j).cps.toList)) := fun i j vi vj s Q E hi hj h => by
  obtain ⟨t, rfl⟩ := hval i vi hi
  obtain ⟨u, rfl⟩ := hval j vj hj
  exact richCompare_gives (op := .Lt) (typeIs_str s _ t) (typeIs_str s _ u) PyProof.Rows.slot_str_lt PyProof.Rows.entry_str_lt (PyProof.Rows.args_str_lt _ _) (gives_str_lt _ _ t u) (fun x => nomatch x) h
section
variable {prog : Program} {w : World} {A : Around} {E : Value → Shared → Prop} {s : Shared}
theorem min_two_strs {a b : Str} {t u : Tok} {Q : Value → Shared → Prop} (hh : A.handled = none)
    (h : ∀ h' tk, (∀ c o, s.heap.get? c = some o → h'.get? c = some o) → Q (if b.cps.toList < a.cps.toList then .str b u else .str a t) { s with heap := h', toks := tk }) :
    wpAny (model prog w) A (call (.builtin "min") [.str a t, .str b u]) Q E s := by
  have hT : (s.heap.push { cls := .type "tuple", data := .seq #[.str a t, .str b u] }).IsTuple s.heap.objs.size (strItems #[(a, t), (b, u)]) := ⟨_, Heap.get?_push_size _ rfl, rfl, 0, by simp [strItems]⟩
  refine call_min_two (wpAny_pyIter_tuple hT ?_)
  have hsz : (s.heap.push { cls := .type "tuple", data := .seq #[.str a t, .str b u] }).objs.size = s.heap.objs.size + 1 := Heap.size_push ..
  refine ⟨_, [_, s.heap.objs.size], [_], _, _, _, _, rfl, Walks.tuple (A := A.in1) hh _ s.heap.objs.size (by rw [hsz]; exact Nat.ne_of_lt (Nat.lt_succ_self _)) (strItems #[(a, t), (b, u)]),
    ⟨⟨_, Heap.get?_push_size _ rfl, rfl, rfl⟩, hT.push _⟩, fun c hc => ?_, by simp [strItems], cmp_strs_lt (strAt #[(a, t), (b, u)]) (fun _ _ => strItems_at), fun v h' tk hP hk => ?_⟩
  · show c < ((s.heap.push _).push _).objs.size
    rw [Heap.size_push, hsz]
    rcases List.mem_cons.mp hc with rfl | hc
    · rw [hsz]; exact Nat.lt_succ_self _
    · rcases List.mem_cons.mp hc with rfl | hc
      · exact Nat.lt_succ_of_lt (Nat.lt_succ_self _)
      · cases hc
  · have hold : ∀ c o, s.heap.get? c = some o → h'.get? c = some o := fun c o e => by
      refine hk c o (fun hm => ?_) (Heap.get?_push_of_some _ (Heap.get?_push_of_some _ e))
      rcases List.mem_cons.mp hm with e1 | hm
      · have := Heap.lt_size e; rw [e1, hsz] at this; exact Nat.lt_irrefl _ (Nat.lt_of_succ_lt this)
      · cases hm
    have := h h' tk hold
    have hv : v = if b.cps.toList < a.cps.toList then Value.str b u else Value.str a t := by
      have hP' : (strItems #[(a, t), (b, u)])[argBest (fun i j => decide ((strAt #[(a, t), (b, u)] i).cps.toList < (strAt #[(a, t), (b, u)] j).cps.toList)) 1]? = some v := by
        have hsz2 : (strItems #[(a, t), (b, u)]).size - 1 = 1 := by simp [strItems]
        rw [← hsz2]; exact hP
      by_cases hba : b.cps.toList < a.cps.toList
      · have e : argBest (fun i j => decide ((strAt #[(a, t), (b, u)] i).cps.toList < (strAt #[(a, t), (b, u)] j).cps.toList)) 1 = 1 := by simp [argBest, strAt, hba]
        rw [e] at hP'
        simpa [strItems, hba] using hP'.symm
      · have e : argBest (fun i j => decide ((strAt #[(a, t), (b, u)] i).cps.toList < (strAt #[(a, t), (b, u)] j).cps.toList)) 1 = 0 := by simp [argBest, strAt, hba]
        rw [e] at hP'
        simpa [strItems, hba] using hP'.symm
    rw [hv]; exact this
end
section
variable {X : Cx}
theorem call_min2S (hc : X.calm = true) : CallR X (.builtin "min") (fun xs H Q => ∃ i j, xs = [.str i, .str j] ∧ Q (.str (if j.cps.toList < i.cps.toList then j else i)) H) := by
  intro pins s σ H xs us Q I r h
  obtain ⟨i, j, rfl, q⟩ := h
  obtain ⟨u, w', rfl, ⟨t, rfl⟩, ⟨t', rfl⟩⟩ := vals2 r
  refine min_two_strs (I.ok.hd hc) fun h' tk k => ⟨_, H, I.kept k, ?_, q⟩
  by_cases hj : j.cps.toList < i.cps.toList
  · rw [if_pos hj, if_pos hj]; exact ⟨_, rfl⟩
  · rw [if_neg hj, if_neg hj]; exact ⟨_, rfl⟩
theorem kd_min2S {i j : Str} (hc : X.calm = true := by rfl) : CalD X (.builtin "min") [.str i, .str j] (.str (if j.cps.toList < i.cps.toList then j else i)) := ⟨_, call_min2S hc, fun M H vs Q mt hv k => by
    obtain ⟨v, u, rfl, h1, h3⟩ := rs2 hv
    simp only [R] at h1 h3
    subst h1 h3
    exact ⟨i, j, rfl, k _ H (Ext.refl _ _) (by simp [R])⟩⟩
end
end Od

set_option Elab.async false
set_option linter.all false
set_option maxRecDepth 100000
set_option maxHeartbeats 4000000
/-! Ps: the law's letters are ascending. -/
namespace Od
open PySem L2 TL PySem.Spec
theorem codes_nodup : ∀ f : Fin 26, ∀ st ∈ steps6, ∀ many : Fin 7, (codesF (f.val : Int) st many.val).Nodup := by decide +kernel
theorem signs_asc {b : Bag} (hb : b.Ok) {many : Nat} (h : many ≤ 6) : (signsF b many).1.Pairwise (· < ·) := by
  obtain ⟨h0, h26⟩ := draw_lo (b := b) (s := 26) (by decide)
  have hst : steps6.getD (draw (draw b 26).2 6).1.toNat 1 ∈ steps6 := by
    have := draw_lo (b := (draw b 26).2) (s := 6) (by decide)
    have hi : (draw (draw b 26).2 6).1.toNat < steps6.length := by show _ < 6; omega
    simp only [List.getD, List.getElem?_eq_getElem hi, Option.getD_some]
    exact List.getElem_mem hi
  have hn := codes_nodup ⟨(draw b 26).1.toNat, by omega⟩ _ hst ⟨many, by omega⟩
  have e : (((⟨(draw b 26).1.toNat, by omega⟩ : Fin 26).val : Nat) : Int) = (draw b 26).1 := by
    show (((draw b 26).1.toNat : Nat) : Int) = _
    omega
  rw [e] at hn
  have h2 : (signsF b many).1.Nodup := (srt_perm _).nodup_iff.mpr hn
  exact (List.pairwise_and_iff.mpr ⟨srt_sorted _, h2⟩).imp fun ⟨a, b⟩ => by omega
theorem signs_nd {b : Bag} (hb : b.Ok) {many : Nat} (h : many ≤ 6) : (signsF b many).1.Nodup := (signs_asc hb h).imp fun h => Nat.ne_of_lt h
end Od

set_option Elab.async false
set_option linter.all false
set_option maxRecDepth 100000
set_option maxHeartbeats 4000000
/-! LaT: _law_field, _law_try. -/
namespace Od
open PySem L2 L2H PyProof.Rows NdefX
abbrev sField : Stmt := top 29
abbrev sTry : Stmt := top 30
section
variable {P : Program} {w : World} {K : PySem.W.Frag} {mg : Str → Option Value} {base : Heap}
theorem scField : FnScope ["_law_e"] ["_law_e"] (defScope sField) := ⟨rfl, rfl, rfl, by decide +kernel, rfl, by decide +kernel, by decide +kernel⟩
theorem scTry : FnScope ["_law_ask", "_law_e"] ["_law_ask"] (defScope sTry) := ⟨rfl, rfl, rfl, by decide +kernel, rfl, by decide +kernel, by decide +kernel⟩
theorem fld_eq {c n : Str} {ns : List Str} {ds : List D} {i : Nat} {d : D} (h : fieldNm c = some n) (hi : ns.idxOf? n = some i) (hd : ds[i]? = some d) : d = fieldD c ns ds := by
  unfold fieldD
  simp only [h, hi, List.getD, hd, Option.getD_some]
theorem ok_field {f : Addr} {fd : FuncData} (F : Fun K "_law_field" "_law_field" sField f fd) (hm : mg "_law_field" = some (.ref f)) (hb : Binds K fd ["_law_e"] []) : FieldOk P w K mg base 1 := by
  refine ⟨f, hm, F.kp, fun A outer s H M a dd C oe x Q E hr hpin e0 hz hf mt r T kq => ?_⟩
  refine run_hot F scField hb hr hpin e0 (us := [.ref a]) (vs := [.ref a]) (.cons rfl .nil) rfl fun cdv hr2 => ?_
  have ea : ExcAt (cxH (L2.CX P w) P w K mg base ["_law_e"] "_law_field" (defScope sField) f cdv A outer s H E (a, oe)) a dd C := excAt_pin (oe := oe) (by simp [cxH]) hz hf
  have key : At (cxH (L2.CX P w) P w K mg base ["_law_e"] "_law_field" (defScope sField) f cdv A outer s H E (a, oe)) M [some (.exc a dd x.ns x.ds)] [] [([], H)] (wSs (cxH (L2.CX P w) P w K mg base ["_law_e"] "_law_field" (defScope sField) f cdv A outer s H E (a, oe)) (defBody sField) { nx := fun _ H' => Q .non H', rt := Q }) := by
    have code : ∀ {pos p : Pos}, EE (cxH (L2.CX P w) P w K mg base ["_law_e"] "_law_field" (defScope sField) f cdv A outer s H E (a, oe)) M [some (.exc a dd x.ns x.ds)] [] (.Attribute (.Name "_law_e" p) "code" pos) (.str (codeOf x)) [] := fun {pos p} => e_xat T.xf T.nc ea (e_name 0 rfl) 0 T.c0 T.d0
    have done : ∀ {n : Str} {pos p pos2 : Pos} {rest : List Stmt}, fieldNm (codeOf x) = some n → (attributeBase (.Name "_law_e" p) n (cxH (L2.CX P w) P w K mg base ["_law_e"] "_law_field" (defScope sField) f cdv A outer s H E (a, oe)).env (eval (.Name "_law_e" p) (cxH (L2.CX P w) P w K mg base ["_law_e"] "_law_field" (defScope sField) f cdv A outer s H E (a, oe)).env) = eval (.Name "_law_e" p) (cxH (L2.CX P w) P w K mg base ["_law_e"] "_law_field" (defScope sField) f cdv A outer s H E (a, oe)).env) →
        EE (cxH (L2.CX P w) P w K mg base ["_law_e"] "_law_field" (defScope sField) f cdv A outer s H E (a, oe)) M [some (.exc a dd x.ns x.ds)] [] (.Attribute (.Name "_law_e" p) n pos) (fieldD (codeOf x) x.ns x.ds) [] := fun {n pos p pos2 rest} hn hb => by
      obtain ⟨h1, i, d, h2, h3⟩ := T.fl n hn
      exact (e_xat T.xf h1 ea (e_name 0 rfl) i h2 h3 hb).eq (fld_eq hn h2 h3)
    refine at_if (b0 := inS (codeOf x) ["InvalidFormula", "InvalidLetters", "InvalidNode", "InvalidProfile", "InvalidLimit"]) (t_cmp code (e_tup (a_cons e_str (a_cons e_str (a_cons e_str (a_cons e_str (a_cons e_str a_nil)))))) (cd_inT rfl rfl rfl rfl)) (fun h1 => ?_) fun h1 => at_nil ?_
    · exact at_end (done (n := "given") (rest := []) (pos2 := ⟨0, 0, 0, 0⟩) (by unfold fieldNm; rw [if_pos h1]) rfl) rfl (.head _) kq
    refine at_if (b0 := inS (codeOf x) ["InvalidName", "DuplicateName", "WrongKind", "CircularName", "Oversized", "Refused", "UnknownName"]) (t_cmp code (e_tup (a_cons e_str (a_cons e_str (a_cons e_str (a_cons e_str (a_cons e_str (a_cons e_str (a_cons e_str a_nil)))))))) (cd_inT rfl rfl rfl rfl)) (fun h2 => ?_) fun h2 => at_nil ?_
    · exact at_end (done (n := "name") (rest := []) (pos2 := ⟨0, 0, 0, 0⟩) (by unfold fieldNm; rw [if_neg (by simp [h1]), if_pos h2]) rfl) rfl (.head _) kq
    refine at_if (b0 := inS (codeOf x) ["TooMany", "TooLong", "Full"]) (t_cmp code (e_tup (a_cons e_str (a_cons e_str (a_cons e_str a_nil)))) (cd_inT rfl rfl rfl rfl)) (fun h3 => ?_) fun h3 => at_nil ?_
    · exact at_end (done (n := "limit") (rest := []) (pos2 := ⟨0, 0, 0, 0⟩) (by unfold fieldNm; rw [if_neg (by simp [h1]), if_neg (by simp [h2]), if_pos h3]) rfl) rfl (.head _) kq
    refine at_if (b0 := inS (codeOf x) ["InvalidTree", "InvalidFilling"]) (t_cmp code (e_tup (a_cons e_str (a_cons e_str a_nil))) (cd_inT rfl rfl rfl rfl)) (fun h4 => ?_) fun h4 => at_nil ?_
    · have e4 : fieldNm (codeOf x) = if codeOf x = ("InvalidTree" : Str) then some ("index" : Str) else some ("key" : Str) := by unfold fieldNm; rw [if_neg (by simp [h1]), if_neg (by simp [h2]), if_neg (by simp [h3]), if_pos h4]
      exact at_end (e_if (t_cmp code e_str cd_eqS) rfl (fun q => done (n := "index") (rest := []) (pos2 := ⟨0, 0, 0, 0⟩) (by rw [e4, if_pos (of_decide_eq_true q)]) rfl) fun q => done (n := "key") (rest := []) (pos2 := ⟨0, 0, 0, 0⟩) (by rw [e4, if_neg (of_decide_eq_false q)]) rfl) rfl (.head _) kq
    refine at_if (b0 := inS (codeOf x) ["NotExtensible", "NotSolving"]) (t_cmp code (e_tup (a_cons e_str (a_cons e_str a_nil))) (cd_inT rfl rfl rfl rfl)) (fun h5 => ?_) fun h5 => at_nil ?_
    · have e4 : fieldNm (codeOf x) = if codeOf x = ("NotExtensible" : Str) then some ("meet" : Str) else some ("refuting" : Str) := by unfold fieldNm; rw [if_neg (by simp [h1]), if_neg (by simp [h2]), if_neg (by simp [h3]), if_neg (by simp [h4]), if_pos h5]
      exact at_end (e_if (t_cmp code e_str cd_eqS) rfl (fun q => done (n := "meet") (rest := []) (pos2 := ⟨0, 0, 0, 0⟩) (by rw [e4, if_pos (of_decide_eq_true q)]) rfl) fun q => done (n := "refuting") (rest := []) (pos2 := ⟨0, 0, 0, 0⟩) (by rw [e4, if_neg (of_decide_eq_false q)]) rfl) rfl (.head _) kq
    refine at_if (b0 := inS (codeOf x) ["NameInUse", "InvalidCommand"]) (t_cmp code (e_tup (a_cons e_str (a_cons e_str a_nil))) (cd_inT rfl rfl rfl rfl)) (fun h6 => ?_) fun h6 => at_nil ?_
    · have e4 : fieldNm (codeOf x) = if codeOf x = ("NameInUse" : Str) then some ("user" : Str) else some ("first" : Str) := by unfold fieldNm; rw [if_neg (by simp [h1]), if_neg (by simp [h2]), if_neg (by simp [h3]), if_neg (by simp [h4]), if_neg (by simp [h5]), if_pos h6]
      exact at_end (e_if (t_cmp code e_str cd_eqS) rfl (fun q => done (n := "user") (rest := []) (pos2 := ⟨0, 0, 0, 0⟩) (by rw [e4, if_pos (of_decide_eq_true q)]) rfl) fun q => done (n := "first") (rest := []) (pos2 := ⟨0, 0, 0, 0⟩) (by rw [e4, if_neg (of_decide_eq_false q)]) rfl) rfl (.head _) kq
    have e4 : fieldNm (codeOf x) = if codeOf x = ("InvalidPage" : Str) then some ("line" : Str) else none := by unfold fieldNm; rw [if_neg (by simp [h1]), if_neg (by simp [h2]), if_neg (by simp [h3]), if_neg (by simp [h4]), if_neg (by simp [h5]), if_neg (by simp [h6])]
    exact at_end (e_if (t_cmp code e_str cd_eqS) rfl (fun q => done (n := "line") (rest := []) (pos2 := ⟨0, 0, 0, 0⟩) (by rw [e4, if_pos (of_decide_eq_true q)]) rfl) fun q => e_non.eq (by unfold fieldD; rw [e4, if_neg (of_decide_eq_false q)])) rfl (.head _) kq
  exact key _ _ (sit_start (N := ["_law_e"]) (ds := [.exc a dd x.ns x.ds]) (c := []) mt (.cons r .nil) (by simp) (by simp)) (fun q hq => by
    rcases List.mem_singleton.mp hq with rfl
    exact Ext.refl _ _) (fun q hq b hb => by simp at hb)
/-- the classes that _law_try catches -/
structure Three (mg : Str → Option Value) : Prop where
  r : ∃ C, mg "RootError" = some (.ref C)
  m : ∃ C, mg "Missing" = some (.ref C)
  n : ∃ C, mg "NothingLeft" = some (.ref C)
theorem ok_try {f : Addr} {fd : FuncData} {kl : Nat} (F : Fun K "_law_try" "_law_try" sTry f fd) (hm : mg "_law_try" = some (.ref f)) (hb : Binds K fd ["_law_ask"] []) (T3 : Three mg) (FD : FieldOk P w K mg base 1) : TryOk P w K mg base kl (kl + 2) := by
  obtain ⟨⟨C1, m1⟩, ⟨C2, m2⟩, ⟨C3, m3⟩⟩ := T3
  refine ⟨f, hm, F.kp, fun A outer s H M v u L fr el ws cs cs' out Q E hr e0 rv hl hC nf hw mt cel nd FL hdm hct kq => ?_⟩
  refine run_cold (k := kl + 1) F scTry hb hr e0 (us := [u]) (vs := [v]) (.cons rv .nil) rfl fun cdv hr2 => ?_
  have S0 : Sit K mg M (L2.start ["_law_ask", "_law_e"] [v]) H [some (.lam L), none] cs := sit_start (N := ["_law_ask", "_law_e"]) (ds := [.lam L]) mt (.cons (by unfold R; exact hl) .nil) cel nd
  have n1 : Nm (cxOf (L2.CX P w) P w K mg base ["_law_ask", "_law_e"] "_law_try" (defScope sTry) f cdv A outer s H E) "RootError" C1 := ⟨rfl, by decide, m1⟩
  have n2 : Nm (cxOf (L2.CX P w) P w K mg base ["_law_ask", "_law_e"] "_law_try" (defScope sTry) f cdv A outer s H E) "Missing" C2 := ⟨rfl, by decide, m2⟩
  have n3 : Nm (cxOf (L2.CX P w) P w K mg base ["_law_ask", "_law_e"] "_law_try" (defScope sTry) f cdv A outer s H E) "NothingLeft" C3 := ⟨rfl, by decide, m3⟩
  have vi : Vis (cxOf (L2.CX P w) P w K mg base ["_law_ask", "_law_e"] "_law_try" (defScope sTry) f cdv A outer s H E).env.scope "_law_ask" := .inl rfl
  have capZ : ∀ pn xe, CapR ((cxOf (L2.CX P w) P w K mg base ["_law_ask", "_law_e"] "_law_try" (defScope sTry) f cdv A outer s H E).tr pn xe) (L2.start ["_law_ask", "_law_e"] [v]) L fr ws := fun pn xe pins s1 H1 I => ⟨CellsAt.later hC nf (fun y c _ h => by cases h) I, fun y c hc hm2 => by
    rcases List.mem_cons.mp (show c ∈ _ :: _ from hm2) with e | e
    · obtain ⟨_, v0, o, ho, _⟩ := hC.all y c hc
      have := Heap.lt_size ho
      rw [e] at this
      exact absurd this (Nat.lt_irrefl _)
    · exact nf y c hc e⟩
  refine wss_of (pss_one (ps_try3w (X := (cxOf (L2.CX P w) P w K mg base ["_law_ask", "_law_e"] "_law_try" (defScope sTry) f cdv A outer s H E)) (i := 1) (C1 := C1) (C2 := C2) (C3 := C3) (Wout := fun _ _ _ _ => False) rfl rfl scTry.nd rfl rfl n1 n2 n3 L2.takes0 (fun _ => rfl))) ?_
  intro pn xe tk
  refine wss_of (pss_one (ps_ret pe_w)) (we_of (pe_tup (pa_cons pe_str (pa_cons pe_w pa_nil rfl) rfl)) ?_)
  cases out with
  | ok d =>
    refine ask_raw FL hdm S0 (capZ pn xe) hw hr2 0 rfl rfl vi (by decide) (by decide) fun y H2 S2 x2 r2 => ⟨by rw [sizeLine_eq]; exact (by decide : 2 ≤ 16777216), fun p hp => ?_⟩
    have xn : Ext [] H2 (upd H2 p (.tup [.str "value", y])) := Ext.new hp
    exact kq _ _ (S2.ex xn).mt (x2.trans (xn.mono (by simp))) (fun q hq => (S2.ex xn).cel q hq) (r_newt S2.mt hp (.cons (by simp [R]) (.cons r2 .nil)))
  | err x =>
    refine xask_raw FL hdm tk S0 (capZ pn xe) hw hr2 0 rfl rfl vi (by decide) (by decide) fun cls dd H2 S2 x2 r2 => ?_
    obtain ⟨C, D1, D2, D3, g0, g1, g2, g3, g4, g5⟩ := hct
    have e1 := g1.symm.trans m1
    have e2 := g2.symm.trans m2
    have e3 := g3.symm.trans m3
    cases e1; cases e2; cases e3
    obtain ⟨C', ddA, xs, hmC, rfl, rfl, nM, hdd, hlen, hrs⟩ := r2
    have e0' := g0.symm.trans (show mg x.c = some (.ref C') from hmC)
    cases e0'
    refine ⟨true, g4, fun _ a na oe pn2 hz hf => ?_, fun h => by cases h⟩
    have S3 := S2.set 1 (v := .ref a) (d := .exc a ddA x.ns x.ds) (by unfold R; exact ⟨xs, rfl, nM, hdd, hlen, hrs⟩)
    have ea : ExcAt ((cxOf (L2.CX P w) P w K mg base ["_law_ask", "_law_e"] "_law_try" (defScope sTry) f cdv A outer s H E).suite a ((a, oe) :: pn2)) a ddA C := excAt_pin (oe := oe) (List.mem_cons_self ..) hz hf
    have room : RoomH 1 ((cxOf (L2.CX P w) P w K mg base ["_law_ask", "_law_e"] "_law_try" (defScope sTry) f cdv A outer s H E).suite a ((a, oe) :: pn2)).A := by
      have h := roomH_of (hr2.mono (show 1 ≤ kl + 1 by omega))
      exact ⟨h.dp, h.un⟩
    refine wss_of (pss_one (ps_ret pe_w)) ((e_tup (X := (cxOf (L2.CX P w) P w K mg base ["_law_ask", "_law_e"] "_law_try" (defScope sTry) f cdv A outer s H E).suite a ((a, oe) :: pn2)) (M := M) (e := [some (.lam L), some (.exc a ddA x.ns x.ds)]) (cs := cs') (a_cons (e_xat g5.xf g5.nc ea (e_name 1 rfl) 0 g5.c0 g5.d0) (a_cons (e_field (oe := oe) (dd := ddA) (C := C) (x := x) FD room (List.mem_cons_self ..) hz hf g5 (e_name 1 rfl)) a_nil))).k _ H2 _ S3 fun v3 H3 S4 x4 r4 => ?_)
    exact kq _ _ S4.mt (x2.trans (by rw [← hdm]; exact x4)) S4.cel r4
end
end Od

set_option Elab.async false
set_option linter.all false
set_option maxRecDepth 100000
set_option maxHeartbeats 4000000
/-! The program's errors, made (printed by gen_err.py). -/
namespace Od
open PySem L2
section
variable {P : Program} {w : World} {K : PySem.W.Frag} {mg : Str → Option Value} {C fI : Addr}
abbrev sX_InvalidText : Stmt := top 5
abbrev sXI_InvalidText : Stmt := inClass sX_InvalidText 0
theorem err_InvalidText (mC : mg "InvalidText" = some (.ref C)) (T : Ox.SupC P K C fI) (I : Ox.SupI P K C fI "InvalidText.__init__" (defArgs sXI_InvalidText) (defBody sXI_InvalidText) (defScope sXI_InvalidText)) : Ox.Err0 P w K mg "InvalidText" "InvalidText" C :=
  Ox.err0_of (fl := "") mC T I ⟨⟨_, fun _ _ _ => rfl⟩, fun _ _ _ => rfl, fun _ _ _ => rfl, fun _ _ _ => rfl⟩ (fun _ _ _ _ _ _ _ => rfl)
abbrev sX_InvalidFilling : Stmt := top 7
abbrev sXI_InvalidFilling : Stmt := inClass sX_InvalidFilling 0
theorem err_InvalidFilling (mC : mg "InvalidFilling" = some (.ref C)) (T : Ox.SupC P K C fI) (I : Ox.SupI P K C fI "InvalidFilling.__init__" (defArgs sXI_InvalidFilling) (defBody sXI_InvalidFilling) (defScope sXI_InvalidFilling)) (nfl : PySem.W.findIn K (.ref C) "key" = some none) : Ox.Err1 P w K mg "InvalidFilling" "InvalidFilling" "key" C :=
  Ox.err1_of mC T I ⟨⟨_, fun _ _ _ => rfl⟩, fun _ _ _ => rfl, fun _ _ _ => rfl, fun _ _ _ => rfl, fun _ _ _ => rfl⟩ rfl nfl (by decide) (by decide) (fun _ _ _ _ _ _ _ _ => rfl)
/-- an error of one field is caught and told -/
theorem caught1' {c code fl : Str} {C1 C2 C3 : Addr} (mC : mg c = some (.ref C)) (m1 : mg "RootError" = some (.ref C1)) (m2 : mg "Missing" = some (.ref C2)) (m3 : mg "NothingLeft" = some (.ref C3)) (hx : PySem.W.exmAny K (.ref C) [.ref C1, .ref C2, .ref C3] = some true) (xf : XfC K C) (nc : PySem.W.findIn K (.ref C) "code" = some none) (nfl : PySem.W.findIn K (.ref C) fl = some none)
    (hf : fieldNm code = some fl) (hi : (["code", fl] : List Str).idxOf? fl = some 1) (d : D) : Caught K mg (.err ⟨c, ["code", fl], [.str code, d]⟩) :=
  ⟨C, C1, C2, C3, mC, m1, m2, m3, hx, ⟨xf, rfl, rfl, nc, fun n hn => by
    have e : n = fl := by
      have : fieldNm code = some n := hn
      rw [hf] at this
      exact (Option.some.inj this).symm
    subst e
    exact ⟨nfl, 1, d, hi, rfl⟩⟩⟩
/-- an error without a field -/
theorem caught0' {c code : Str} {C1 C2 C3 : Addr} (mC : mg c = some (.ref C)) (m1 : mg "RootError" = some (.ref C1)) (m2 : mg "Missing" = some (.ref C2)) (m3 : mg "NothingLeft" = some (.ref C3)) (hx : PySem.W.exmAny K (.ref C) [.ref C1, .ref C2, .ref C3] = some true) (xf : XfC K C) (nc : PySem.W.findIn K (.ref C) "code" = some none)
    (hf : fieldNm code = none) : Caught K mg (.err ⟨c, ["code"], [.str code]⟩) :=
  ⟨C, C1, C2, C3, mC, m1, m2, m3, hx, ⟨xf, rfl, rfl, nc, fun n hn => by
    have h : fieldNm code = some n := hn
    rw [hf] at h
    cases h⟩⟩
theorem tryD_err1 {c code fl : Str} (d : D) (h : fieldNm code = some fl) (h2 : (["code", fl] : List Str).idxOf? fl = some 1) : tryD (.err ⟨c, ["code", fl], [.str code, d]⟩) = .tup [.str code, d] := by
  show D.tup [.str code, fieldD code ["code", fl] [.str code, d]] = _
  unfold fieldD
  rw [h]
  show D.tup [.str code, match (["code", fl] : List Str).idxOf? fl with | none => .non | some i => ([.str code, d] : List D).getD i .non] = _
  rw [h2]
  rfl
theorem tryD_err0 {c code : Str} (h : fieldNm code = none) : tryD (.err ⟨c, ["code"], [.str code]⟩) = .tup [.str code, .non] := by
  show D.tup [.str code, fieldD code ["code"] [.str code]] = _
  unfold fieldD
  rw [h]
end
end Od

set_option Elab.async false
set_option linter.all false
set_option maxRecDepth 100000
set_option maxHeartbeats 4000000
/-! Ol8: expressions that give a new list; defs and methods that return one. -/
namespace Od
open PySem L2
section
variable {X : Cx} {M : Addr → Prop} {e : DE} {cs : Cs} {pos p apos : Pos} {a b c ex o : Expr} {es : List Expr} {ds : List D}
/-- ex gives a new list of ds -/
structure EN (X : Cx) (M : Addr → Prop) (e : DE) (cs : Cs) (ex : Expr) (ds : List D) : Prop where
  k : ∀ (σ : L2.St) (H : Hp) (Q : VK), Sit X.K X.mg M σ H e cs → (∀ p H' xs, H p = none → Ext [] H H' → (∀ a, M a → H' a ≠ none) → H' p = some (.lst xs) → Rs X.K X.mg (fun a => M a ∨ a = p) H' xs ds → Q (.ref p) H') → wE X ex σ H Q
theorem en_fin {H H1 : Hp} {p : Addr} {xs : List V} {Q : VK} (mt : ∀ a, M a → H1 a ≠ none) (x1 : Ext [] H H1) (hp : H1 p = none) (r : Rs X.K X.mg M H1 xs ds) (k : ∀ p H' xs, H p = none → Ext [] H H' → (∀ a, M a → H' a ≠ none) → H' p = some (.lst xs) → Rs X.K X.mg (fun a => M a ∨ a = p) H' xs ds → Q (.ref p) H') : Q (.ref p) (upd H1 p (.lst xs)) := by
  have hn : H p = none := by
    cases z : H p with
    | none => rfl
    | some o => rw [x1 p o z (by simp)] at hp; cases hp
  refine k p _ xs hn (x1.trans (Ext.new hp)) (fun b mb => ?_) upd_same ?_
  · by_cases h : b = p
    · subst h; rw [upd_same]; simp
    · rw [upd_ne h]; exact mt b mb
  · exact Rs.ext (fun b o _ h => by rw [upd_ne (ne_of_none h hp)]; exact h) (fun b n h z => z.elim n fun z => h (z ▸ hp)) _ r
/-- [] -/
theorem en_nil : EN X M e cs (.List [] pos) [] := ⟨fun σ H Q S k => we_of (pe_lst pa_nil) ⟨by simp, fun q hq => en_fin S.mt (Ext.refl _ _) hq .nil k⟩⟩
theorem EN.eq {ds' : List D} (h : EN X M e cs ex ds) (q : ds = ds') : EN X M e cs ex ds' := q ▸ h
/-- a if c else b -/
theorem en_if {p0 : Bool} (hc : ET X M e [] c p0 []) (ha : p0 = true → EN X M e [] a ds) (hb : p0 = false → EN X M e [] b ds) : EN X M e [] (.IfExp c a b pos) ds := ⟨fun σ H Q S k => we_of (pe_ifExp pt_w pe_w pe_w) (hc.k σ H _ S fun H1 S1 x1 => by
  have x1' : Ext [] H H1 := x1
  have k' : ∀ p H' xs, H1 p = none → Ext [] H1 H' → (∀ a, M a → H' a ≠ none) → H' p = some (.lst xs) → Rs X.K X.mg (fun a => M a ∨ a = p) H' xs ds → Q (.ref p) H' := fun p H' xs hp x2 mt hh r => k p H' xs (by
    cases z : H p with
    | none => rfl
    | some o => rw [x1' p o z (by simp)] at hp; cases hp) (x1'.trans x2) mt hh r
  cases p0 with
  | true => rw [if_pos rfl]; exact (ha rfl).k σ H1 Q S1 k'
  | false => rw [if_neg (by simp)]; exact (hb rfl).k σ H1 Q S1 k')⟩
/-- list(x), x a list -/
theorem en_list (ha : EE X M e [] a (.lst ds) []) (hm : X.mg "list" = none) (hg : Gl X "list" := by rfl) (he : starEach [a] X.env = (false, eval a X.env) :: starEach [] X.env := by rfl) : EN X M e [] (.Call (.Name "list" p) [a] [] pos) ds := ⟨fun σ H Q S k => by
  refine we_of (pe_callTy call_list_of hg hm (by decide +kernel) (pa_cons pe_w pa_nil he) (by decide) (by decide) he rfl) (ha.k σ H _ S fun v H1 S1 x1 r1 => ?_)
  obtain ⟨ad, xs, rfl, _, h1, ra⟩ := r_lst r1
  exact ⟨ad, xs, rfl, .inl (.of h1), fun q hq => en_fin S1.mt x1 hq ra k⟩⟩
end
section
variable {P : Program} {w : World} {K : PySem.W.Frag} {mg : Str → Option Value} {base : Heap} {ι : Type} {pre : ι → Prop} {args ds : ι → List D} {x qual c m : Str} {st : Stmt} {f : Addr} {fd : FuncData} {N ps : List Str} {k : Nat}
/-- a method that returns a new list -/
theorem mthN_of (hC : ∃ C, mg c = some (.ref C) ∧ Cls K C ∧ Meth K C m f) (F : Fun K x qual st f fd) (S : FnScope N ps (defScope st)) (hb : Binds K fd ps []) (hl : ∀ i, (args i).length = ps.length)
    (body : ∀ (cdv : Value) (A : Around) (outer : List Env) (s : Shared) (H0 : Hp) (E : XK) (i : ι) (M : Addr → Prop) (Q : VK), pre i → Room k (A.deeper (PyProof.Rows.envOfC qual (defScope st) s.heap.objs.size f cdv)) →
      (∀ p H', H0 p = none → (∀ a, M a → H' a ≠ none) → Ext [] H0 H' → (∃ xs, H' p = some (.lst xs) ∧ Rs K mg (fun a => M a ∨ a = p) H' xs (ds i)) → Q (.ref p) H') →
      At (cxOf (L2.CX P w) P w K mg base N qual (defScope st) f cdv A outer s H0 E) M ((args i).map some ++ List.replicate (N.length - (args i).length) none) [] [([], H0)]
        (wSs (cxOf (L2.CX P w) P w K mg base N qual (defScope st) f cdv A outer s H0 E) (defBody st) { nx := fun _ H' => Q .non H', rt := Q })) : Mth P w K mg base c m (k + 1) (fnSpN K mg pre args ds) := by
  have h : FnOk P w K mg base (L2.CX P w) (k + 1) f fd ps (fnSpN K mg pre args ds) := F.okX S (fun vs H Q E h => by
    obtain ⟨M, i, _, _, r, _⟩ := h
    rw [r.length, hl]) fun cdv A outer s H vs Q E hr h => by
    obtain ⟨M, i, hp, mt, r, kq⟩ := h
    refine ⟨_, pss_w, ?_⟩
    refine body cdv A outer s H E i M Q hp hr kq _ _ (sit_start mt r (by simp) (by simp)) (fun q hq => ?_) fun q hq a ha => by simp at ha
    rcases List.mem_singleton.mp hq with rfl
    exact Ext.refl _ _
  have h2 := h.raw (ds := []) (dvs := []) hb .nil
  obtain ⟨C, h1, h3, h4⟩ := hC
  exact ⟨C, f, h1, h3, h4, by simpa using h2⟩
end
section
variable {X : Cx} {M : Addr → Prop} {e : DE} {fr : Frs} {D0 : Ends} {pos : Pos} {ex : Expr} {rest : List Stmt} {ds ds' : List D}
/-- return ex, a new list -/
theorem at_endE {H0 : Hp} (ha : EN X M e [] ex ds) (hd : ds = ds') (hfr : ([], H0) ∈ fr)
    (kq : ∀ p H', H0 p = none → (∀ a, M a → H' a ≠ none) → Ext [] H0 H' → (∃ xs, H' p = some (.lst xs) ∧ Rs X.K X.mg (fun a => M a ∨ a = p) H' xs ds') → D0.rt (.ref p) H') : At X M e [] fr (wSs X (.Return (some ex) pos :: rest) D0) := fun σ H S x l =>
  wss_of (pss_cons (ps_ret pe_w) pss_w) (ha.k σ H _ S fun p H' xs hp x1 mt hh r => kq p H' (by
    cases z : H0 p with
    | none => rfl
    | some o => rw [(x _ hfr) p o z (by simp)] at hp; cases hp) mt ((x _ hfr).trans x1) ⟨xs, hh, hd ▸ r⟩)
end
end Od

set_option Elab.async false
set_option linter.all false
set_option maxRecDepth 100000
set_option maxHeartbeats 4000000
/-! Ol9: a new list that a method hands out, changed at once and dropped. -/
namespace Od
open PySem L2
section
variable {X : Cx} {M : Addr → Prop} {e : DE} {cs : Cs} {pos p apos pc : Pos} {o : Expr} {ds : List D} {n m cn : Str} {ns : List Str} {gs : List D} {k : Nat} {ι : Type} {pre : ι → Prop} {args dz : ι → List D}
/-- x.m(), x a name of this frame, m hands out a new list -/
theorem en_me0 {pl : Sem Bool} (F : Mth X.prog X.w X.K X.mg X.base cn m k (fnSpN X.K X.mg pre args dz)) (hr : Room k X.A) (j : Nat) (hj : e[j]? = some (some (.obj cn ns gs))) (i : ι) (hp : pre i) (hds : [.obj cn ns gs] = args i) (hN : X.N[j]? = some n := by rfl) (hv : Vis X.env.scope n := by first | exact Or.inl rfl | exact Or.inr (Or.inl rfl) | exact Or.inr (Or.inr rfl)) (hnm : m ∉ ns := by decide +kernel)
    (h1 : (n == ("__debug__" : Str)) = false := by decide) (h2 : (n == ("__classdict__" : Str)) = false := by decide)
    (ht : eval (.Call (.Attribute (.Name n p) m apos) [] [] pos) X.env = (do
      let ov ← eval (.Name n p) X.env
      standAt apos.atName
      let (f, first) ← holding [ov] (getMethod ov m pl)
      callWith pos f first (backTo pos (starEach [] X.env)) (backToKw pos (keywordEach [] X.env))) := by rfl) : EN X M e cs (.Call (.Attribute (.Name n p) m apos) [] [] pos) (dz i) := ⟨fun σ H Q S k => by
    obtain ⟨C, f, hm, hc, hmt, F⟩ := F.ex
    obtain ⟨v, hs, r⟩ := S.env j _ hj
    have r' := r
    obtain ⟨ad, C', dx, xs, rfl, _, hm', hob, hl, rs⟩ := r_obj r
    rw [hm] at hm'; cases hm'
    refine we_of (pe_methR0 (E := E0) (pe_var hN hv h1 h2) hc hmt F hr passL ht) ⟨.ref ad, hs, ad, dx, _, rfl, hob, zip_lookup_none hnm, M, i, hp, S.mt, by rw [← hds]; exact .cons r' .nil, fun q H' hq mt xt ⟨ys, hh, rr⟩ => k q H' ys hq xt mt hh rr⟩⟩
/-- o.append(None), o a new list -/
theorem e_tmpApp {jc : Nat} (ho : EN X M e cs o ds) (hl : ds.length < 100000)
    (hpe : ∀ ta, PA X [.Constant .none jc pc] ta → PE X (.Call (.Attribute o "append" apos) [.Constant .none jc pc] [] pos) (tBM X.K "list" rAppend (wE X o) ta) := by intro ta h; exact pe_bm PySem.F.plainAttrs_list PySem.F.slot_list_append PySem.F.type_list_append mt_append pe_w h)
    (hs : starEach [.Constant .none jc pc] X.env = (false, eval (.Constant .none jc pc) X.env) :: starEach [] X.env := by rfl) : EE X M e cs (.Call (.Attribute o "append" apos) [.Constant .none jc pc] [] pos) .non cs where
  dm := rfl
  k := fun σ H Q S k => we_of (hpe _ (pa_cons pe_non pa_nil hs)) (ho.k σ H _ S fun q H' xs hq xt mt hh rr => by
    refine ⟨.inl ⟨rfl, xs, .of hh⟩, q, xs, .non, rfl, rfl, hh, by rw [rr.length]; exact Nat.lt_of_lt_of_le hl (by decide), ?_⟩
    have x2 : Ext [] H (upd H' q (.lst (xs ++ [V.non]))) := fun a o h hn => by
      rw [upd_ne (ne_of_none h hq)]; exact xt a o h hn
    exact k _ _ (S.ex x2) (x2.mono (by simp)) (by simp [R]))
/-- o.clear(), o a new list -/
theorem e_tmpClr (ho : EN X M e cs o ds) (hpe : PE X (.Call (.Attribute o "clear" apos) [] [] pos) (tBM0 X.K "list" rClear (wE X o)) := by exact pe_bm0 PySem.F.plainAttrs_list PySem.F.slot_list_clear PySem.F.type_list_clear mt_clear pe_w) : EE X M e cs (.Call (.Attribute o "clear" apos) [] [] pos) .non cs where
  dm := rfl
  k := fun σ H Q S k => we_of hpe (ho.k σ H _ S fun q H' xs hq xt mt hh rr => by
    refine ⟨.inl ⟨rfl, xs, .of hh⟩, q, xs, rfl, rfl, hh, ?_⟩
    have x2 : Ext [] H (upd H' q (.lst [])) := fun a o h hn => by
      rw [upd_ne (ne_of_none h hq)]; exact xt a o h hn
    exact k _ _ (S.ex x2) (x2.mono (by simp)) (by simp [R]))
end
end Od

set_option Elab.async false
set_option linter.all false
set_option maxRecDepth 100000
set_option maxHeartbeats 4000000
/-! Lk9: the walk of law k09. -/
namespace Od
open PySem L2 TL PySem.Spec LamX
local macro_rules
  | `(tactic| walk_at "bd") => `(tactic| first | exact bd_add | exact bd_sub | exact bd_mulR (by decide) | exact bd_mulL (by decide) | exact bd_mod (by decide) | exact bd_div (by decide))
local macro_rules
  | `(tactic| walk_at "le") => `(tactic| repeat (first | exact LeD.nil | apply LeD.drop | apply LeD.same))
abbrev sLaw : Stmt := top 42
abbrev LawPre (ns : List Int) : Prop := ns.length ≤ 63
abbrev nmL : List Str := ["_law_script", "_law_bag", "_law_turn", "_law_signs_here", "_law_mine", "_law_given", "_law_made_here", "_law_handed", "_law_due", "_law_again", "_law_told", "_law_key", "_law_odd", "_law_bad", "_law_place"]
theorem scLaw : FnScope nmL ["_law_script"] (defScope sLaw) := ⟨rfl, rfl, rfl, by decide +kernel, rfl, by decide +kernel, by decide +kernel⟩
abbrev cxL (P : Program) (w : World) (K : PySem.W.Frag) (mg : Str → Option Value) (base : Heap) (f c : Addr) (A : Around) (outer : List Env) (s : Shared) (H0 : Hp) (E : XK) : Cx := cxOf (L2.CX P w) P w K mg base nmL "law" (defScope sLaw) f (.ref c) A outer s H0 E
abbrev qn : Str := (("law" : Str) ++ ".<locals>.") ++ "<lambda>"
structure Kit (P : Program) (w : World) (K : PySem.W.Frag) (mg : Str → Option Value) (base : Heap) : Prop where
  B : Blt mg
  hd : mg "dict" = none
  hmin : mg "min" = none
  cells : CellsD P w K mg base 2
  draw : DrawD P w K mg base 3
  one : OneD P w K mg base 4
  signs : SignsD P w K mg base 5
  form : ∀ n, FormD P w K mg base n (6 + n)
  text : ∀ n, LTextD P w K mg base n (2 + n)
  lsize : ∀ n, RecD P w K mg base "_law_size" (fun f => .int (f.sz : Nat)) n (3 + n)
  made : ∀ n, MadeD P w K mg base n (7 + n)
  madeAll : ∀ n, MadeAllD P w K mg base n (8 + n)
  filling : ∀ n, FillingD P w K mg base n (7 + n)
  put : ∀ n, PutD P w K mg base n (3 + n)
  same : ∀ n, SameFD P w K mg base n (5 + n)
  filled : ∀ n, FilledD P w K mg base n (8 + n)
  filledK : ∀ n, FilledK P w K mg base n (8 + n)
  filledX : FilledX P w K mg base 5
  fsize : ∀ n, FSizeD P w K mg base n (3 + n)
  ptext : M0D P w K mg base "text" (fun f => .str f.t) 1
  readX : ReadX P w K mg base 131
  eq : EqD P w K mg base 2
  nf : ∀ C, mg "Formula" = some (.ref C) → PySem.W.notFirst K C (.ref C) = true
  try' : TryOk P w K mg base 5 7
  caught : ∀ m, Caught K mg (.err (badFl m))
theorem tryD_badFl (m : Str) : tryD (.err (badFl m)) = .tup [.str "InvalidFilling", .str m] := tryD_err1 (.str m) (by decide +kernel) (by decide +kernel)
section
variable {X : Cx} {M : Addr → Prop} {e : DE} {cs cs1 cs2 cs3 : Cs} {pos p pos' apos : Pos} {a c ex o x : Expr}
theorem e_sameF {d : D} {n k : Nat} (F : SameFD X.prog X.w X.K X.mg X.base n k) (hr : Room k X.A) (hp : pfD n d) (ha : EE X M e cs a d cs1) (hx : EE X M e cs1 x d cs2) (hg : Gl X "_law_same" := by rfl)
    (he : starEach [a, x] X.env = (false, eval a X.env) :: starEach [x] X.env := by rfl) (he2 : starEach [x] X.env = (false, eval x X.env) :: starEach [] X.env := by rfl) (hpl : (backTo pos (starEach [x] X.env)).any (·.1) = false := by rfl)
    (hv : ∀ whole, isTrue (.Call (.Name "_law_same" p) [a, x] [] pos) X.env whole = (do let v ← whole; standAt (Expr.pos (.Call (.Name "_law_same" p) [a, x] [] pos)); holding [v] (truthy v)) := by intro _; rfl) : ET X M e cs (.UnaryOp .Not (.Call (.Name "_law_same" p) [a, x] [] pos) pos') false cs2 :=
  t_not (k0 := true) (t_val (EE.eq (e_call F hr (a_cons ha (a_cons hx a_nil he2) he) d hp rfl hg (by decide) he hpl) rfl) hv)
end
/-! the plain part -/
def oddS : List Str := ["", "A", "1", "xy"]
theorem oddS_is : ∀ s ∈ oddS, isLet s = false ∧ ¬ lsS "~" s ∧ s ≠ "~" ∧ s.length ≤ 2 := by decide +kernel
theorem oddS_tl : ∀ s ∈ oddS, ∀ c ∈ alpha, tl s ≠ [c] := by decide +kernel
/-- what stands at a key of the wrong filling -/
def vlB (g : Fil) (g0 : Fm) (x : Str) : D :=
  match tl x with
  | [c] => ((g.f c).getD g0).o
  | _ => g0.o
theorem vlB_o (g : Fil) (g0 : Fm) (x : Str) : ∃ f : Fm, vlB g g0 x = f.o := by
  unfold vlB
  split
  · exact ⟨_, rfl⟩
  · exact ⟨_, rfl⟩
theorem vlB_sg (g : Fil) (g0 : Fm) (c : Nat) : vlB g g0 (sg c) = ((g.f c).getD g0).o := rfl
theorem vlB_no {g : Fil} {g0 : Fm} {x : Str} (h : ∀ c, tl x = [c] → g.f c = none) : vlB g g0 x = g0.o := by
  unfold vlB
  split
  · rename_i c e
    rw [h c e]; rfl
  · rfl
theorem f_none {g : Fil} (hg : g.Ok) {c : Nat} (h : c ∉ alpha) : g.f c = none := by
  cases e : g.f c with
  | none => rfl
  | some x => exact absurd (hg.le _ (Fil.f_mem e)) h
theorem kpairs_map (vl : Str → D) : ∀ ss : List Str, (ss.map fun x => D.tup [.str x, vl x]) = kpairs (ss.map Sum.inr) (ss.map vl)
  | [] => rfl
  | x :: ss => by
    rw [List.map_cons, kpairs_map vl ss]; rfl
def badK (g : Fil) (odd : Str) : List Str := (g.map fun p => sg p.1) ++ [odd, "~"]
theorem inr_nd {ss : List Str} (h : ss.Nodup) : (ss.map (Sum.inr : Str → Key)).Nodup := List.Pairwise.map _ (fun a b hab hz => hab (by injection hz)) h
theorem sg_nd {g : Fil} (hg : g.Ok) : (g.map fun p => sg p.1).Nodup := by
  have : (g.map fun p => sg p.1) = (g.map (·.1)).map sg := by simp
  rw [this]
  exact List.Pairwise.map _ (fun a b hab hz => hab (by simpa using congrArg tl hz)) hg.nd
theorem badK_nd {g : Fil} (hg : g.Ok) {odd : Str} (ho : odd ∈ oddS) : (badK g odd).Nodup := by
  obtain ⟨_, _, h3, _⟩ := oddS_is odd ho
  refine List.nodup_append.mpr ⟨sg_nd hg, by simp [h3], fun a ha b hb => ?_⟩
  obtain ⟨p, hp, rfl⟩ := List.mem_map.mp ha
  have hpa := hg.le p hp
  simp only [List.mem_cons, List.not_mem_nil, or_false] at hb
  rcases hb with rfl | rfl
  · exact fun z => oddS_tl b ho p.1 hpa (by rw [← z]; rfl)
  · intro z
    have h1 : [p.1] = [126] := congrArg tl z
    have h2 : p.1 = 126 := by simpa using h1
    rw [h2] at hpa
    exact absurd hpa (by decide)
theorem badK_tups {g : Fil} (hg : g.Ok) (g0 : Fm) {odd : Str} (ho : odd ∈ oddS) : (g.map fun p => D.tup [.str (sg p.1), p.2.o]) ++ [D.tup [.str odd, g0.o], D.tup [.str "~", g0.o]] = (badK g odd).map fun x => D.tup [.str x, vlB g g0 x] := by
  unfold badK
  rw [List.map_append, List.map_map]
  congr 1
  · apply List.map_congr_left
    intro p hp
    show _ = D.tup [.str (sg p.1), vlB g g0 (sg p.1)]
    rw [vlB_sg, Fil.f_eq hg hp]; rfl
  · have h1 : vlB g g0 odd = g0.o := vlB_no fun c e => f_none hg fun hc => oddS_tl odd ho c hc e
    have h2 : vlB g g0 "~" = g0.o := vlB_no fun c e => f_none hg fun hc => by
      have e' : [126] = [c] := e
      have : c = 126 := by simpa using e'.symm
      rw [this] at hc
      exact absurd hc (by decide)
    rw [List.map_cons, List.map_cons, h1, h2]; rfl
theorem badK_pre {g : Fil} (hg : g.Ok) (hl : g.length ≤ 20) (g0 : Fm) {odd : Str} (ho : odd ∈ oddS) : BadI.Pre ⟨badK g odd, vlB g g0, odd⟩ := by
  obtain ⟨h1, h2, h3, h4⟩ := oddS_is odd ho
  refine ⟨badK_nd hg ho, by show (badK g odd).length < 64; simp [badK]; omega, by show odd ∈ badK g odd; simp [badK], fun x hx => ?_, fun x hx hlt => ⟨?_, vlB_o g g0 x⟩, .inl h1⟩
  · have hx : x ∈ badK g odd := hx
    rcases List.mem_append.mp hx with hx | hx
    · obtain ⟨p, hp, rfl⟩ := List.mem_map.mp hx
      show 1 ≤ 100000; decide
    · simp only [List.mem_cons, List.not_mem_nil, or_false] at hx
      rcases hx with rfl | rfl
      · omega
      · decide +kernel
  · have hx : x ∈ badK g odd := hx
    rcases List.mem_append.mp hx with hx | hx
    · obtain ⟨p, hp, rfl⟩ := List.mem_map.mp hx
      exact isLet_sg (hg.le p hp)
    · simp only [List.mem_cons, List.not_mem_nil, or_false] at hx
      rcases hx with rfl | rfl
      · exact absurd hlt (lsS_irrefl _)
      · exact absurd hlt h2
/-- the wrong value -/
def wrongL (g0 : Fm) : List D := [.non, .str "x", .int 3, .lst [g0.o]]
theorem wrongL_bad {g0 : Fm} {d : D} (h : d ∈ wrongL g0) : BadV d := by
  simp only [wrongL, List.mem_cons, List.not_mem_nil, or_false] at h
  rcases h with rfl | rfl | rfl | rfl
  · exact ⟨_, rfl⟩
  · exact ⟨_, rfl⟩
  · exact ⟨_, rfl⟩
  · exact ⟨_, rfl⟩
def zS (cs : List Nat) : Str := "z" ++ strOf cs
theorem zS_tl (cs : List Nat) : tl (zS cs) = 122 :: cs := by
  unfold zS
  rw [tl_app]; rfl
def vlW (g0 : Fm) (d : D) (c : Nat) (x : Str) : D := if x = sg c then d else g0.o
theorem zS_ne {cs : List Nat} (hl : cs.length = 3) (c : Nat) : zS cs ≠ sg c := fun z => by
  have := congrArg (fun s => (tl s).length) z
  simp only [zS_tl] at this
  have h2 : (tl (sg c)).length = 1 := rfl
  rw [h2] at this
  simp [hl] at this
theorem zS_nls {cs : List Nat} {c : Nat} (hc : c ∈ alpha) : ¬ lsS (zS cs) (sg c) := by
  unfold lsS
  rw [zS_tl]
  have h1 : c ≤ 122 := by
    have : ∀ c ∈ alpha, c ≤ 122 := by decide +kernel
    exact this c hc
  show ¬ (122 :: cs < [c])
  intro h
  rcases List.cons_lt_cons_iff.mp h with h | ⟨_, h⟩
  · omega
  · exact absurd h (List.not_lt_nil _)
theorem wrong_pre {cs : List Nat} (hl : cs.length = 3) {c : Nat} (hc : c ∈ alpha) (g0 : Fm) {d : D} (hd : BadV d) : BadI.Pre ⟨[zS cs, sg c], vlW g0 d c, sg c⟩ := by
  refine ⟨by simp [zS_ne hl c], by simp, by simp, fun x hx => ?_, fun x hx hlt => ?_, .inr ⟨isLet_sg hc, by show BadV (vlW g0 d c (sg c)); rw [vlW, if_pos rfl]; exact hd⟩⟩
  · simp only [List.mem_cons, List.not_mem_nil, or_false] at hx
    rcases hx with rfl | rfl
    · have h : (zS cs).length = 4 := by show (tl (zS cs)).length = 4; rw [zS_tl]; simp [hl]
      omega
    · show 1 ≤ 100000; decide
  · simp only [List.mem_cons, List.not_mem_nil, or_false] at hx
    rcases hx with rfl | rfl
    · exact absurd hlt (zS_nls hc)
    · exact absurd hlt (lsS_irrefl _)
section
variable {P : Program} {w : World} {K : PySem.W.Frag} {mg : Str → Option Value} {base : Heap}
def gXY : Fm := .bin .an (.le 120) (.le 121)
theorem read_xy : readB (tl ("(x & y)" : Str)) = some gXY := by decide +kernel
theorem ok_law {f c PT : Addr} {oc kV doc pm ct : Value} {od an : Option Addr} {osl : Array (Option Value)} (lk : K.lookup f = some ⟨oc, od, .func (PySem.W.fnOf "law" "law" (defArgs sLaw) (defBody sLaw) (defScope sLaw) .none kV doc pm an (.ref c) ct), osl⟩) (hcd : PySem.W.codeIn K (.ref c) "law" = true) (TB : TabB base mg c PT) (T : Kit P w K mg base) :
    FnOk P w K mg base (L2.CX P w) 151 f (PySem.W.fnOf "law" "law" (defArgs sLaw) (defBody sLaw) (defScope sLaw) .none kV doc pm an (.ref c) ct) ["_law_script"] (fnSp K mg LawPre (fun ns => [.scr ns]) (fun _ => [(PT, .tab qn)]) (fun _ => .bl true) (fun _ => [(PT, .tab qn)])) := by
  refine fnokC_of (k := 150) lk hcd scLaw (fun i => rfl) fun A outer s H0 E ns M Q hp hr hM kq => ?_
  have B := T.B
  have z : ∀ n : Nat, n ≤ 100000 → n ≤ sizeLine := fun n h => Nat.le_trans h (by decide)
  have hu : (cxL P w K mg base f c A outer s H0 E).A.units + 64 < cLine := show (A.deeper (PyProof.Rows.envOfC "law" (defScope sLaw) s.heap.objs.size f (.ref c))).units + 64 < cLine by have := hr.un; omega
  have hu1 : (cxL P w K mg base f c A outer s H0 E).A.units + 1 < cLine := by omega
  have TL : LamAt (cxL P w K mg base f c A outer s H0 E) c PT := ⟨TB, rfl⟩
  refine at_setN 1 T.cells (hr.mono (by decide)) (a_cons (e_name 0 rfl) a_nil) ns hp rfl (fun q => ?_) scLaw.nd
  refine at_eqC (cs2 := [(q, (bag0 ns).c), (PT, .tab qn)]) ?_ rfl
  refine at_for (α := fun _ => Bag) (ds := (ups 0 6).map D.int) (fun _ b => b.Ok) (fun _ b => [some (.scr ns), some (.ref q), none, none, none, none, none, none, none, none, none, none, none, none, none]) (fun _ b => [(q, b.c), (PT, .tab qn)])
    (EI.eq (ei_rng1 e_int B.range (by decide)) rfl) (ltg_name 2 scLaw.nd) (fun _ _ => trivial) (bag0 ns) (bag0_ok ns) rfl rfl (fun _ _ _ => rfl) (fun i d b H1 hd ok => ?_) fun b ok => ?_
  · have o2 := signsF_ok ok 3
    have hal : ∀ c ∈ (signsF b 3).1, c ∈ alpha := signsF_alpha
    have hc : CsOk (signsF b 3).1 := ⟨by rw [signsF_len]; omega, by rw [signsF_len]; omega⟩
    have hnd := signs_nd ok (many := 3) (by decide)
    have hsl : (signsF b 3).1.length = 3 := signsF_len
    refine at_set 3 (d := .str (strOf (signsF b 3).1)) (cs1 := [(q, (signsF b 3).2.c), (PT, .tab qn)]) (e_signs T.signs (hr.mono (by decide)) (e_name 1 rfl) e_int rfl .here ok (by decide)) ?_ scLaw.nd
    generalize signsF b 3 = S at o2 hal hc hnd hsl
    have hcq : CsOk (S.1 ++ [113]) := ⟨by rw [List.length_append, hsl]; decide, by rw [List.length_append, hsl]; decide⟩
    have halq : ∀ c ∈ S.1 ++ [113], c ∈ alpha := fun c h => by
      rcases List.mem_append.mp h with h | h
      · exact hal c h
      · rcases List.mem_singleton.mp h with rfl
        decide
    have hqs : strOf S.1 ++ ("q" : Str) = strOf (S.1 ++ [113]) := by rw [show (("q" : Str)) = strOf [113] by decide +kernel, strOf_app]
    obtain ⟨fok, fsz, fne⟩ := formF_fm hc hal 3 S.2
    have o3 := formF_ok 3 o2 S.1
    obtain ⟨k1, v1⟩ := fillF_fil (b := (formF 3 S.2 S.1).2) (n := 2) hnd hal (by omega) hcq halq
    have o4 := fillF_ok o3 S.1 (S.1 ++ [113]) 2
    have l1 : (fillF (formF 3 S.2 S.1).2 S.1 (S.1 ++ [113]) 2).1.length ≤ 3 := by
      have h1 := filF_len (ts := S.1 ++ [113]) (n := 2) (mixF [] (formF 3 S.2 S.1).2 S.1).1 (s := ([], (mixF [] (formF 3 S.2 S.1).2 S.1).2))
      have h2 : (mixF [] (formF 3 S.2 S.1).2 S.1).1.length = 3 := by rw [mixF_len, hsl]; rfl
      have h3 : (fillF (formF 3 S.2 S.1).2 S.1 (S.1 ++ [113]) 2).1.length ≤ ([] : Fil).length + (mixF [] (formF 3 S.2 S.1).2 S.1).1.length := h1
      simp only [List.length_nil] at h3
      omega
    refine at_unp2 (x := (formF 3 S.2 S.1).1.d) (y := (fillF (formF 3 S.2 S.1).2 S.1 (S.1 ++ [113]) 2).1.dict Fm.d) (cs1 := [(q, (fillF (formF 3 S.2 S.1).2 S.1 (S.1 ++ [113]) 2).2.c), (PT, .tab qn)]) 4 5
      (e_tup (a_cons (cs1 := [(q, (formF 3 S.2 S.1).2.c), (PT, .tab qn)]) (e_form (n := 3) (T.form 3) (hr.mono (by decide)) (e_name 1 rfl) (e_name 3 rfl) e_int rfl .here o2 hc)
      (a_cons (EE.eq (e_call1 (T.filling 2) (hr.mono (by decide)) (a_cons (e_name 1 rfl) (a_cons (e_name 3 rfl) (a_cons (EE.eq (e_bin (e_name 3 rfl) e_str (bd_addS (z _ (by show S.1.toArray.size + 1 ≤ 100000; simp [hsl])))) (congrArg D.str hqs)) (a_cons e_int a_nil)))) (⟨q, (formF 3 S.2 S.1).2, S.1, S.1 ++ [113]⟩ : FlI) (FlI.Pre.mk o3 hnd (by show S.1.length ≤ 60; omega) hcq) rfl rfl rfl .here) rfl) a_nil)))
      ?_ scLaw.nd
    generalize formF 3 S.2 S.1 = R1 at fok fsz fne o3 k1 v1 o4 l1
    obtain ⟨g0, B1⟩ := R1
    dsimp only at fok fsz fne o3 k1 v1 o4 l1 ⊢
    generalize fillF B1 S.1 (S.1 ++ [113]) 2 = R2 at k1 v1 o4 l1
    obtain ⟨g1, B2⟩ := R2
    dsimp only at k1 v1 o4 l1 ⊢
    have s1 : ∀ c x, g1.f c = some x → x.sz ≤ 7 ∧ x.nest ≤ 3 := fun c x h => by
      have := v1 _ (Fil.f_mem h)
      dsimp only at this
      exact ⟨by omega, this.2⟩
    have s2 : ∀ p ∈ g1, p.2.ok ∧ p.2.sz ≤ 7 ∧ p.2.nest ≤ 3 := fun p h => by
      have := v1 p h
      exact ⟨k1.ok p h, by omega, this.2⟩
    have z1 : (sub g1.f g0).sz ≤ 105 := Nat.le_trans (sub_sz (by decide) (fun c x h => (s1 c x h).1) g0) (by omega)
    have n1 : (sub g1.f g0).nest ≤ 6 := by have := sub_nest (by decide) (fun c x h => (s1 c x h).2) g0; omega
    have p1 : (sub g1.f g0).ok := sub_ok (fun c x h => k1.ok _ (Fil.f_mem h)) g0 fok
    have fp0 : FilPre (g0, g1) := ⟨fok, k1, by show (sub g1.f g0).sz ≤ 9000; omega⟩
    refine at_unp2 (x := g0.o) (y := g1.dict Fm.o) (cs1 := [(q, B2.c), (PT, .tab qn)]) 6 7 (e_tup (a_cons (EE.eq (e_call (T.made 4) (hr.mono (by decide)) (a_cons (e_name 4 rfl) a_nil) g0 ⟨fok, by omega, fne⟩ rfl) rfl) (a_cons (EE.eq (e_call (T.madeAll 3) (hr.mono (by decide)) (a_cons (e_name 5 rfl) a_nil) g1 ⟨k1, fun p hp => ⟨by have := (v1 p hp).1; omega, (v1 p hp).2⟩⟩ rfl) rfl) a_nil))) ?_ scLaw.nd
    refine at_set 8 (d := (sub g1.f g0).d) (cs1 := [(q, B2.c), (PT, .tab qn)]) (EE.eq (e_call (T.put 4) (hr.mono (by decide)) (a_cons (e_name 4 rfl) (a_cons (e_name 5 rfl) a_nil)) ((g0, g1) : Fm × Fil) fne rfl) rfl) ?_ scLaw.nd
    refine at_for (α := fun _ => Unit) (ds := (ups 0 2).map D.int) (fun _ _ => True) (fun _ _ => [some (.scr ns), some (.ref q), some d, some (.str (strOf S.1)), some g0.d, some (g1.dict Fm.d), some g0.o, some (g1.dict Fm.o), some (sub g1.f g0).d, none, none, none, none, none, none]) (fun _ _ => [(q, B2.c), (PT, .tab qn)])
      (EI.eq (ei_rng1 e_int B.range (by decide)) rfl) (ltg_name 9 scLaw.nd) (fun _ _ => trivial) () trivial rfl rfl (fun _ _ _ => rfl) (fun i2 d2 u H2 hd2 _ => ?_) fun u _ => ?_
    · refine at_set 10 (d := .lst [.str (sub g1.f g0).t, .str (sub g1.f g0).t, .int ((sub g1.f g0).sz : Nat)]) (cs1 := [(q, B2.c), (PT, .tab qn)]) (e_lst (a_cons (e_fm T.ptext (hr.mono (by decide)) (e_filled (T.filled 4) (hr.mono (by decide)) ⟨fp0, fne⟩ (e_name 6 rfl) (e_name 7 rfl))) (a_cons (e_fm T.ptext (hr.mono (by decide)) (e_filledK (T.filledK 4) (hr.mono (by decide)) fp0 fne (e_name 6 rfl) (e_name 7 rfl))) (a_cons (EE.eq (e_call (T.fsize 4) (hr.mono (by decide)) (a_cons (e_name 6 rfl) (a_cons (e_name 7 rfl) a_nil)) ((g0, g1) : Fm × Fil) ⟨fp0, fne⟩ rfl) rfl) a_nil)))) ?_ scLaw.nd
      refine at_if (b0 := false) (cs1 := [(q, B2.c), (PT, .tab qn)]) (e_sameF (d := .lst [.str (sub g1.f g0).t, .str (sub g1.f g0).t, .int ((sub g1.f g0).sz : Nat)]) (n := 1) (T.same 1) (hr.mono (by decide)) ⟨by simp, by simp [pfD]⟩ (e_name 10 rfl) (e_lst (a_cons (EE.eq (e_call (T.text 6) (hr.mono (by decide)) (a_cons (e_name 8 rfl) a_nil) (sub g1.f g0) ⟨n1, by omega⟩ rfl) rfl) (a_cons (EE.eq (e_call (T.text 6) (hr.mono (by decide)) (a_cons (e_name 8 rfl) a_nil) (sub g1.f g0) ⟨n1, by omega⟩ rfl) rfl) (a_cons (EE.eq (e_call (T.lsize 6) (hr.mono (by decide)) (a_cons (e_name 8 rfl) a_nil) (sub g1.f g0) n1 rfl) rfl) a_nil))))) (fun h => by cases h) (fun _ => at_nil ?_)
      exact at_nil (at_go (at_inv (e := [some (.scr ns), some (.ref q), some d, some (.str (strOf S.1)), some g0.d, some (g1.dict Fm.d), some g0.o, some (g1.dict Fm.o), some (sub g1.f g0).d, none, none, none, none, none, none]) () trivial rfl rfl) (by walk_at "le") rfl)
    have hgl0 := g0.t_len
    have hgl : ∀ p ∈ g1, p.2.t.length ≤ 42 := fun p hp => by
      have h1 := p.2.t_len
      have h2 := (s2 p hp).2.1
      omega
    refine at_if (b0 := false) (cs1 := [(q, B2.c), (PT, .tab qn)]) (e_sameF (d := .lst [.str g0.t, .lst ((srtS (g1.map fun p => sg p.1 ++ p.2.t)).map D.str)]) (n := 2) (T.same 2) (hr.mono (by decide)) ⟨by simp, fun d hd => by
        simp only [List.mem_cons, List.not_mem_nil, or_false] at hd
        rcases hd with rfl | rfl
        · simp [pfD]
        · refine ⟨by rw [List.length_map, (srtS_perm _).length_eq, List.length_map]; omega, fun x hx => ?_⟩
          obtain ⟨y, _, rfl⟩ := List.mem_map.mp hx
          simp [pfD]⟩
      (e_lst (a_cons (e_fm T.ptext (hr.mono (by decide)) (e_name 6 rfl)) (a_cons (e_blt (kd_sortedS (ss := g1.map fun p => sg p.1 ++ p.2.t) (by rw [List.length_map]; omega) fun ys hy hs => sortS_all hy hs) (a_cons (EE.eq (e_lcD [("_law_key", 11)] 7 rfl g1 (fun p => Sum.inr (sg p.1)) (fun p => D.str (sg p.1 ++ p.2.t)) rfl (ctg_name 11 scLaw.nd (by decide) rfl) (fun _ _ => trivial) (by omega)
        (fun x hx M' hM s2' H2 C2 cl2 fp2 => e_bin (e_name 11 rfl) (e_fm T.ptext (hr.mono (by decide)) (e_dix (y := x.2.o) (e_name 7 rfl) (e_name 11 rfl) (by rw [dvl_fil, Fil.f_eq k1 hx]; rfl) (by exact hu1))) (bd_addS (z _ (by have := hgl x hx; show 1 + x.2.t.length ≤ 100000; omega)))) (blkOk_by rfl) scLaw.nd) (by simp)) a_nil) B.sorted) a_nil)))
      (e_lst (a_cons (EE.eq (e_call (T.text 4) (hr.mono (by decide)) (a_cons (e_name 4 rfl) a_nil) g0 ⟨fne, by omega⟩ rfl) rfl) (a_cons (e_blt (kd_sortedS (ss := g1.map fun p => sg p.1 ++ p.2.t) (by rw [List.length_map]; omega) fun ys hy hs => sortS_all hy hs) (a_cons (EE.eq (e_lcD [("_law_key", 11)] 5 rfl g1 (fun p => Sum.inr (sg p.1)) (fun p => D.str (sg p.1 ++ p.2.t)) rfl (ctg_name 11 scLaw.nd (by decide) rfl) (fun _ _ => trivial) (by omega)
        (fun x hx M' hM s2' H2 C2 cl2 fp2 => e_bin (x := .str (sg x.1)) (y := .str x.2.t) (e_name 11 rfl) (EE.eq (e_call (T.text 3) (hr.mono (by decide)) (a_cons (e_dix (y := x.2.d) (e_name 5 rfl) (e_name 11 rfl) (by rw [dvl_fil, Fil.f_eq k1 hx]; rfl) (by exact hu1)) a_nil) x.2 ⟨(s2 x hx).2.2, by have := (s2 x hx).2.1; omega⟩ rfl) rfl) (bd_addS (z _ (by have := hgl x hx; show 1 + x.2.t.length ≤ 100000; omega)))) (blkOk_by rfl) scLaw.nd) (by simp)) a_nil) B.sorted) a_nil)))) (fun h => by cases h) (fun _ => at_nil ?_)
    -- a key that is no letter
    have o5 := draw_ok o4 4
    have hoi := dpS_item (l := oddS) (b := B2) (by show 0 < 4; decide)
    have hom := dpS_mem (l := oddS) (b := B2) (by show 0 < 4; decide)
    refine at_set 12 (d := .str (dpS oddS B2)) (cs1 := [(q, (draw B2 4).2.c), (PT, .tab qn)]) (EE.eq (e_oneL (t := .lst (oddS.map D.str)) T.one (hr.mono (by decide)) (e_name 1 rfl) (e_lst (a_cons e_str (a_cons e_str (a_cons e_str (a_cons e_str a_nil))))) .here o4 (by show 0 < 4 ∧ 4 ≤ 100000; decide)) hoi) ?_ scLaw.nd
    generalize dpS oddS B2 = odd at hom
    generalize (draw B2 4).2 = B3 at o5
    refine at_set 13 (d := BadI.dict ⟨badK g1 odd, vlB g1 g0, odd⟩) (cs1 := [(q, B3.c), (PT, .tab qn)]) (e_bty (kd_dictP ((badK_tups k1 g0 hom).trans (kpairs_map _ _)) (by simp) (inr_nd (badK_nd k1 hom))) (a_cons (e_bin (e_lcD [("_law_key", 11)] 7 rfl g1 (fun p => Sum.inr (sg p.1)) (fun p => D.tup [.str (sg p.1), p.2.o]) rfl (ctg_name 11 scLaw.nd (by decide) rfl) (fun _ _ => trivial) (by omega)
      (fun x hx M' hM s2' H2 C2 cl2 fp2 => e_tup (a_cons (e_name 11 rfl) (a_cons (e_dix (y := x.2.o) (e_name 7 rfl) (e_name 11 rfl) (by rw [dvl_fil, Fil.f_eq k1 hx]; rfl) (by exact hu1)) a_nil))) (blkOk_by rfl) scLaw.nd) (e_lst (ds := [D.tup [.str odd, g0.o], D.tup [.str "~", g0.o]]) (a_cons (e_tup (a_cons (e_name 12 rfl) (a_cons (e_name 6 rfl) a_nil))) (a_cons (e_tup (a_cons e_str (a_cons (e_name 6 rfl) a_nil))) a_nil))) (bd_addL (by rw [List.length_map]; show g1.length + 2 ≤ 100000; omega))) a_nil) T.hd) ?_ scLaw.nd
    refine at_if (b0 := false) (cs1 := [(q, B3.c), (PT, .tab qn)]) (e_sameF (d := .tup [.str "InvalidFilling", .str odd]) (n := 1) (T.same 1) (hr.mono (by decide)) ⟨by simp, by simp [pfD]⟩
      (e_tryX ["_law_bad", "_law_made_here"] ["_law_bad", "_law_made_here"] [13, 6] [some (BadI.dict ⟨badK g1 odd, vlB g1 g0, odd⟩), some g0.o] T.try' (hr.mono (by decide)) TL (q := qn) (List.mem_cons_of_mem _ (List.mem_cons_self ..)) (fun A outer s H E f c' hr2 => x_filled T.filledX hr2 (badK_pre k1 (by omega) g0 hom) (e_name 1 rfl) (e_name 0 rfl)) rfl (T.caught odd) (tryD_badFl odd))
      (e_tup (a_cons e_str (a_cons (e_name 12 rfl) a_nil)))) (fun h => by cases h) (fun _ => at_nil ?_)
    -- a value that is no formula
    have o6 := draw_ok o5 3
    obtain ⟨cp, hcp, hpi⟩ : ∃ cp, cp ∈ S.1 ∧ itemD (.str (strOf S.1)) (draw B3 3).1.toNat = .str (sg cp) := by
      obtain ⟨h1, h2⟩ := draw_lo (b := B3) (s := 3) (by decide)
      have hi : (draw B3 3).1.toNat < S.1.length := by omega
      refine ⟨S.1[(draw B3 3).1.toNat], List.getElem_mem hi, ?_⟩
      show D.str (sg (S.1.getD _ 0)) = _
      simp [List.getD, List.getElem?_eq_getElem hi]
    have hlen3 : lenD (.str (strOf S.1)) = 3 := by show S.1.toArray.size = 3; simpa using hsl
    refine at_set 14 (d := .str (sg cp)) (cs1 := [(q, (draw B3 3).2.c), (PT, .tab qn)]) (EE.eq (e_oneL (t := .str (strOf S.1)) T.one (hr.mono (by decide)) (e_name 1 rfl) (e_name 3 rfl) (by rw [hlen3]; exact .here) o5 (by rw [hlen3]; decide)) (by rw [hlen3]; exact hpi)) ?_ scLaw.nd
    generalize (draw B3 3).2 = B4 at o6
    have o7 := draw_ok o6 4
    have hwm := dpA_mem (l := wrongL g0) (b := B4) (by show 0 < 4; decide)
    have hwb := wrongL_bad hwm
    obtain ⟨wd, hwd⟩ : ∃ wd, itemD (.lst (wrongL g0)) (draw B4 (wrongL g0).length).1.toNat = wd := ⟨_, rfl⟩
    rw [hwd] at hwb
    have hza : (zS S.1) = ("z" : Str) ++ strOf S.1 := rfl
    have hwt : [D.tup [.str (zS S.1), g0.o], D.tup [.str (sg cp), wd]] = [zS S.1, sg cp].map fun x => D.tup [.str x, vlW g0 wd cp x] := by
      show _ = [D.tup [.str (zS S.1), vlW g0 wd cp (zS S.1)], D.tup [.str (sg cp), vlW g0 wd cp (sg cp)]]
      rw [vlW, if_neg (zS_ne hsl cp), vlW, if_pos rfl]
    have hzl : (("z" : Str)).length + (strOf S.1).length ≤ 100000 := by show 1 + S.1.toArray.size ≤ 100000; simp [hsl]
    refine at_set 13 (d := BadI.dict ⟨[zS S.1, sg cp], vlW g0 wd cp, sg cp⟩) (cs1 := [(q, (draw B4 4).2.c), (PT, .tab qn)]) (e_bty (kd_dictP (hwt.trans (kpairs_map _ _)) (by simp) (inr_nd (by simp [zS_ne hsl cp]))) (a_cons (e_lst (a_cons (e_tup (a_cons (e_bin e_str (e_name 3 rfl) (bd_addS (z _ hzl))) (a_cons (e_name 6 rfl) a_nil))) (a_cons (e_tup (a_cons (e_name 14 rfl) (a_cons (EE.eq (e_oneL (t := .lst (wrongL g0)) T.one (hr.mono (by decide)) (e_name 1 rfl) (e_lst (a_cons e_non (a_cons e_str (a_cons e_int (a_cons (e_lst (ds := [g0.o]) (a_cons (e_name 6 rfl) a_nil)) a_nil)))) (by show 4 ≤ 100000; decide)) .here o6 (by show 0 < 4 ∧ 4 ≤ 100000; decide)) hwd) a_nil))) a_nil))) a_nil) T.hd) ?_ scLaw.nd
    generalize (draw B4 4).2 = B5 at o7
    have hmin : (if (tl (zS S.1)) < (tl (sg cp)) then zS S.1 else sg cp) = sg cp := if_neg (zS_nls (hal cp hcp))
    refine at_if (b0 := false) (cs1 := [(q, B5.c), (PT, .tab qn)]) (e_sameF (d := .tup [.str "InvalidFilling", .str (sg cp)]) (n := 1) (T.same 1) (hr.mono (by decide)) ⟨by simp, by simp [pfD]⟩
      (e_tryX ["_law_bad", "_law_made_here"] ["_law_bad", "_law_made_here"] [13, 6] [some (BadI.dict ⟨[zS S.1, sg cp], vlW g0 wd cp, sg cp⟩), some g0.o] T.try' (hr.mono (by decide)) TL (q := qn) (List.mem_cons_of_mem _ (List.mem_cons_self ..)) (fun A outer s H E f c' hr2 => x_filled T.filledX hr2 (wrong_pre hsl (hal cp hcp) g0 hwb) (e_name 1 rfl) (e_name 0 rfl)) rfl (T.caught (sg cp)) (tryD_badFl (sg cp)))
      (e_tup (a_cons e_str (a_cons (EE.eq (e_blt kd_min2S (a_cons (e_name 14 rfl) (a_cons (e_bin e_str (e_name 3 rfl) (bd_addS (z _ hzl))) a_nil)) T.hmin) (congrArg D.str hmin)) a_nil)))) (fun h => by cases h) (fun _ => at_nil ?_)
    exact at_nil (at_go (at_inv (e := [some (.scr ns), some (.ref q), none, none, none, none, none, none, none, none, none, none, none, none, none]) B5 o7 rfl rfl) (by walk_at "le") rfl)
  · have RX := T.readX "(x & y)" (by decide +kernel)
    rw [read_xy] at RX
    have e0 : sub (Fil.f []) gXY = gXY := sub_id gXY fun c _ => .inl rfl
    have fpE : FilPre (gXY, []) := ⟨⟨by show 120 ∈ alpha; decide, by show 121 ∈ alpha; decide⟩, ⟨by simp, by simp, by simp, by simp⟩, by rw [e0]; decide⟩
    exact at_done (M0 := M) (c2 := [(PT, .tab qn)]) (d := .bl true) (EE.eq (e_eqF (f := gXY) (g := gXY) T.eq T.nf (hr.mono (by decide)) (EE.eq (e_filled (f := gXY) (g := []) (T.filled 2) (hr.mono (by decide)) ⟨fpE, by decide⟩ (e_fn RX (hr.mono (by decide)) (a_cons e_str a_nil) sw0) e_dic0) (by rw [e0])) (e_fn RX (hr.mono (by decide)) (a_cons e_str a_nil) sw0)) (by simp)) (.head _) (fun a h => .inl h) (by simp) (fun p hp => hM p hp) rfl kq
end
end Od

set_option Elab.async false
set_option linter.all false
set_option maxRecDepth 100000
set_option maxHeartbeats 4000000
namespace Od
open PySem L2 TL PySem.Spec LamX PyProof.Rows
theorem cx_no {P : Program} {w : World} {outer : List Env} {H : Hp} {s s' : Shared} {e : Value} (z : L2.CX P w outer H s (fun _ _ _ => False) e s') : False := by
  obtain ⟨_, _, _, _, _, _, _, _, _, _, _, _, z⟩ := z
  exact z
theorem all_mk {l : PySem.W.OpenLaw} {w : World} {K : PySem.W.Frag} {h : Heap} {mg : Str → Option Value} {fa : Addr} (X : K.In h) (G : h.Ns mainGlobals mg) (hfa : mg "law" = some (.ref fa)) (own : OwnTab K fa h)
    {cL PT : Addr} {eL : Value} {ddL : Option Addr} {vsL : Array Value} {slL : Array (Option Value)}
    {f_isLet : Addr} {od_isLet an_isLet : Option Addr} {sl_isLet : Array (Option Value)} {oc_isLet kV_isLet dc_isLet pm_isLet ct_isLet : Value} {cd_isLet : Value}
    {f_letIn : Addr} {od_letIn an_letIn : Option Addr} {sl_letIn : Array (Option Value)} {oc_letIn kV_letIn dc_letIn pm_letIn ct_letIn : Value} {cd_letIn : Value}
    {f_isForm : Addr} {od_isForm an_isForm : Option Addr} {sl_isForm : Array (Option Value)} {oc_isForm kV_isForm dc_isForm pm_isForm ct_isForm : Value} {cd_isForm : Value}
    {f_textIn : Addr} {od_textIn an_textIn : Option Addr} {sl_textIn : Array (Option Value)} {oc_textIn kV_textIn dc_textIn pm_textIn ct_textIn : Value} {cd_textIn : Value}
    {f_need : Addr} {od_need an_need : Option Addr} {sl_need : Array (Option Value)} {oc_need kV_need dc_need pm_need ct_need : Value} {cd_need : Value}
    {f_chk : Addr} {od_chk an_chk : Option Addr} {sl_chk : Array (Option Value)} {oc_chk kV_chk dc_chk pm_chk ct_chk : Value} {cd_chk : Value}
    {f_with : Addr} {od_with an_with : Option Addr} {sl_with : Array (Option Value)} {oc_with kV_with dc_with pm_with ct_with : Value} {cd_with : Value}
    {f_fsize : Addr} {od_fsize an_fsize : Option Addr} {sl_fsize : Array (Option Value)} {oc_fsize kV_fsize dc_fsize pm_fsize ct_fsize : Value} {cd_fsize : Value}
    {f_readF : Addr} {od_readF an_readF : Option Addr} {sl_readF : Array (Option Value)} {oc_readF kV_readF dc_readF pm_readF ct_readF : Value} {cd_readF : Value}
    {f_cells : Addr} {od_cells an_cells : Option Addr} {sl_cells : Array (Option Value)} {oc_cells kV_cells dc_cells pm_cells ct_cells : Value} {cd_cells : Value}
    {f_draw : Addr} {od_draw an_draw : Option Addr} {sl_draw : Array (Option Value)} {oc_draw kV_draw dc_draw pm_draw ct_draw : Value} {cd_draw : Value}
    {f_one : Addr} {od_one an_one : Option Addr} {sl_one : Array (Option Value)} {oc_one kV_one dc_one pm_one ct_one : Value} {cd_one : Value}
    {f_same : Addr} {od_same an_same : Option Addr} {sl_same : Array (Option Value)} {oc_same kV_same dc_same pm_same ct_same : Value} {cd_same : Value}
    {f_mixed : Addr} {od_mixed an_mixed : Option Addr} {sl_mixed : Array (Option Value)} {oc_mixed kV_mixed dc_mixed pm_mixed ct_mixed : Value} {cd_mixed : Value}
    {f_signs : Addr} {od_signs an_signs : Option Addr} {sl_signs : Array (Option Value)} {oc_signs kV_signs dc_signs pm_signs ct_signs : Value} {cd_signs : Value}
    {f_leaf : Addr} {od_leaf an_leaf : Option Addr} {sl_leaf : Array (Option Value)} {oc_leaf kV_leaf dc_leaf pm_leaf ct_leaf : Value} {cd_leaf : Value}
    {f_form : Addr} {od_form an_form : Option Addr} {sl_form : Array (Option Value)} {oc_form kV_form dc_form pm_form ct_form : Value} {cd_form : Value}
    {f_inner : Addr} {od_inner an_inner : Option Addr} {sl_inner : Array (Option Value)} {oc_inner kV_inner dc_inner pm_inner ct_inner : Value} {cd_inner : Value}
    {f_ltext : Addr} {od_ltext an_ltext : Option Addr} {sl_ltext : Array (Option Value)} {oc_ltext kV_ltext dc_ltext pm_ltext ct_ltext : Value} {cd_ltext : Value}
    {f_made : Addr} {od_made an_made : Option Addr} {sl_made : Array (Option Value)} {oc_made kV_made dc_made pm_made ct_made : Value} {cd_made : Value}
    {f_lsize : Addr} {od_lsize an_lsize : Option Addr} {sl_lsize : Array (Option Value)} {oc_lsize kV_lsize dc_lsize pm_lsize ct_lsize : Value} {cd_lsize : Value}
    {f_put : Addr} {od_put an_put : Option Addr} {sl_put : Array (Option Value)} {oc_put kV_put dc_put pm_put ct_put : Value} {cd_put : Value}
    {f_madeAll : Addr} {od_madeAll an_madeAll : Option Addr} {sl_madeAll : Array (Option Value)} {oc_madeAll kV_madeAll dc_madeAll pm_madeAll ct_madeAll : Value} {cd_madeAll : Value}
    {f_filling : Addr} {od_filling an_filling : Option Addr} {sl_filling : Array (Option Value)} {oc_filling kV_filling dc_filling pm_filling ct_filling : Value} {cd_filling : Value}
    {f_field : Addr} {od_field an_field : Option Addr} {sl_field : Array (Option Value)} {oc_field kV_field dc_field pm_field ct_field : Value} {cd_field : Value}
    {f_try : Addr} {od_try an_try : Option Addr} {sl_try : Array (Option Value)} {oc_try kV_try dc_try pm_try ct_try : Value} {cd_try : Value}
    {f_law : Addr} {od_law an_law : Option Addr} {sl_law : Array (Option Value)} {oc_law kV_law dc_law pm_law ct_law : Value}
    {C : Addr}
    {C1 : Addr}
    {C2 : Addr}
    {C3 : Addr}
    {XT_ : Addr}
    {XF_ : Addr}
    {CR : Addr}
    {f_init : Addr} {od_init an_init : Option Addr} {sl_init : Array (Option Value)} {oc_init kV_init dc_init pm_init ct_init : Value} {cd_init : Value}
    {f_text : Addr} {od_text an_text : Option Addr} {sl_text : Array (Option Value)} {oc_text kV_text dc_text pm_text ct_text : Value} {cd_text : Value}
    {f_parts : Addr} {od_parts an_parts : Option Addr} {sl_parts : Array (Option Value)} {oc_parts kV_parts dc_parts pm_parts ct_parts : Value} {cd_parts : Value}
    {f_eq : Addr} {od_eq an_eq : Option Addr} {sl_eq : Array (Option Value)} {oc_eq kV_eq dc_eq pm_eq ct_eq : Value} {cd_eq : Value}
    {f_neg : Addr} {od_neg an_neg : Option Addr} {sl_neg : Array (Option Value)} {oc_neg kV_neg dc_neg pm_neg ct_neg : Value} {cd_neg : Value}
    {f_and : Addr} {od_and an_and : Option Addr} {sl_and : Array (Option Value)} {oc_and kV_and dc_and pm_and ct_and : Value} {cd_and : Value}
    {f_or : Addr} {od_or an_or : Option Addr} {sl_or : Array (Option Value)} {oc_or kV_or dc_or pm_or ct_or : Value} {cd_or : Value}
    {f_shr : Addr} {od_shr an_shr : Option Addr} {sl_shr : Array (Option Value)} {oc_shr kV_shr dc_shr pm_shr ct_shr : Value} {cd_shr : Value}
    {f_filled : Addr} {od_filled an_filled : Option Addr} {sl_filled : Array (Option Value)} {oc_filled kV_filled dc_filled pm_filled ct_filled : Value} {cd_filled : Value}
    {f_rinit : Addr} {od_rinit an_rinit : Option Addr} {sl_rinit : Array (Option Value)} {oc_rinit kV_rinit dc_rinit pm_rinit ct_rinit : Value} {cd_rinit : Value}
    {f_rskip : Addr} {od_rskip an_rskip : Option Addr} {sl_rskip : Array (Option Value)} {oc_rskip kV_rskip dc_rskip pm_rskip ct_rskip : Value} {cd_rskip : Value}
    {f_rsign : Addr} {od_rsign an_rsign : Option Addr} {sl_rsign : Array (Option Value)} {oc_rsign kV_rsign dc_rsign pm_rsign ct_rsign : Value} {cd_rsign : Value}
    {f_rform : Addr} {od_rform an_rform : Option Addr} {sl_rform : Array (Option Value)} {oc_rform kV_rform dc_rform pm_rform ct_rform : Value} {cd_rform : Value}
    {f_rpair : Addr} {od_rpair an_rpair : Option Addr} {sl_rpair : Array (Option Value)} {oc_rpair kV_rpair dc_rpair pm_rpair ct_rpair : Value} {cd_rpair : Value}
    {f_pword : Addr} {od_pword an_pword : Option Addr} {sl_pword : Array (Option Value)} {oc_pword kV_pword dc_pword pm_pword ct_pword : Value} {cd_pword : Value}
    {p_pword : Addr} {r_pword : List Value}
    {f_pletters : Addr} {od_pletters an_pletters : Option Addr} {sl_pletters : Array (Option Value)} {oc_pletters kV_pletters dc_pletters pm_pletters ct_pletters : Value} {cd_pletters : Value}
    {p_pletters : Addr} {r_pletters : List Value}
    {f_psize : Addr} {od_psize an_psize : Option Addr} {sl_psize : Array (Option Value)} {oc_psize kV_psize dc_psize pm_psize ct_psize : Value} {cd_psize : Value}
    {p_psize : Addr} {r_psize : List Value}
    {f_pnested : Addr} {od_pnested an_pnested : Option Addr} {sl_pnested : Array (Option Value)} {oc_pnested kV_pnested dc_pnested pm_pnested ct_pnested : Value} {cd_pnested : Value}
    {p_pnested : Addr} {r_pnested : List Value}
    {f_pdepth : Addr} {od_pdepth an_pdepth : Option Addr} {sl_pdepth : Array (Option Value)} {oc_pdepth kV_pdepth dc_pdepth pm_pdepth ct_pdepth : Value} {cd_pdepth : Value}
    {p_pdepth : Addr} {r_pdepth : List Value}
    {f_strue : Addr} {od_strue an_strue : Option Addr} {sl_strue : Array (Option Value)} {oc_strue kV_strue dc_strue pm_strue ct_strue : Value} {cd_strue : Value}
    {p_strue : Addr} {r_strue : List Value}
    {f_sfalse : Addr} {od_sfalse an_sfalse : Option Addr} {sl_sfalse : Array (Option Value)} {oc_sfalse kV_sfalse dc_sfalse pm_sfalse ct_sfalse : Value} {cd_sfalse : Value}
    {p_sfalse : Addr} {r_sfalse : List Value}
    {f_sletter : Addr} {od_sletter an_sletter : Option Addr} {sl_sletter : Array (Option Value)} {oc_sletter kV_sletter dc_sletter pm_sletter ct_sletter : Value} {cd_sletter : Value}
    {p_sletter : Addr} {r_sletter : List Value}
    {nmxt qxt : Str} {Nxt : Addr} {bsxt bmxt : List Value} {snxt : List Str} {subxt : List Value} {abxt : Bool} {colxt : Option Bool} {ddxt : Option Addr} {kaxt kbxt kcxt kdxt kext : Option Value} {fixt : Addr} {ocxt dcxt pmxt ctxt : Value} {odxt anxt : Option Addr} {cdaxt ccxt : Addr} {slxt : Array (Option Value)} {filext : Str} {tfxt : Tok} {vsxt : Array Value} {cclxt : Value} {cddxt : Option Addr} {ccsxt : Array (Option Value)} {clxt : Value} {cldxt : Option Addr} {cslxt : Array (Option Value)}
    {nmxf qxf : Str} {Nxf : Addr} {bsxf bmxf : List Value} {snxf : List Str} {subxf : List Value} {abxf : Bool} {colxf : Option Bool} {ddxf : Option Addr} {kaxf kbxf kcxf kdxf kexf : Option Value} {fixf : Addr} {ocxf dcxf pmxf ctxf : Value} {odxf anxf : Option Addr} {cdaxf ccxf : Addr} {slxf : Array (Option Value)} {filexf : Str} {tfxf : Tok} {vsxf : Array Value} {cclxf : Value} {cddxf : Option Addr} {ccsxf : Array (Option Value)} {clxf : Value} {cldxf : Option Addr} {cslxf : Array (Option Value)}
    {tal : Tok}
    {pa : Addr} {es : Array DictEntry} {ne : Nat} {ta to ti : Tok}
    {tmost : Tok}
    (a_isLet : PySem.W.nsIn K mainGlobals "is_letter" = some (some (.ref f_isLet)))
    (l_isLet : K.lookup f_isLet = some ⟨oc_isLet, od_isLet, .func (PySem.W.fnOf "is_letter" "is_letter" (defArgs sIsLet) (defBody sIsLet) (defScope sIsLet) .none kV_isLet dc_isLet pm_isLet an_isLet cd_isLet ct_isLet), sl_isLet⟩)
    (c_isLet : PySem.W.codeIn K (cd_isLet) "is_letter" = true)
    (k_isLet : PySem.W.keepIn K (.ref f_isLet) = true)
    (a_letIn : PySem.W.nsIn K mainGlobals "letters_in" = some (some (.ref f_letIn)))
    (l_letIn : K.lookup f_letIn = some ⟨oc_letIn, od_letIn, .func (PySem.W.fnOf "letters_in" "letters_in" (defArgs sLetIn) (defBody sLetIn) (defScope sLetIn) .none kV_letIn dc_letIn pm_letIn an_letIn cd_letIn ct_letIn), sl_letIn⟩)
    (c_letIn : PySem.W.codeIn K (cd_letIn) "letters_in" = true)
    (k_letIn : PySem.W.keepIn K (.ref f_letIn) = true)
    (a_isForm : PySem.W.nsIn K mainGlobals "is_form" = some (some (.ref f_isForm)))
    (l_isForm : K.lookup f_isForm = some ⟨oc_isForm, od_isForm, .func (PySem.W.fnOf "is_form" "is_form" (defArgs sIsForm) (defBody sIsForm) (defScope sIsForm) .none kV_isForm dc_isForm pm_isForm an_isForm cd_isForm ct_isForm), sl_isForm⟩)
    (c_isForm : PySem.W.codeIn K (cd_isForm) "is_form" = true)
    (k_isForm : PySem.W.keepIn K (.ref f_isForm) = true)
    (a_textIn : PySem.W.nsIn K mainGlobals "text_in" = some (some (.ref f_textIn)))
    (l_textIn : K.lookup f_textIn = some ⟨oc_textIn, od_textIn, .func (PySem.W.fnOf "text_in" "text_in" (defArgs sTextIn) (defBody sTextIn) (defScope sTextIn) .none kV_textIn dc_textIn pm_textIn an_textIn cd_textIn ct_textIn), sl_textIn⟩)
    (c_textIn : PySem.W.codeIn K (cd_textIn) "text_in" = true)
    (k_textIn : PySem.W.keepIn K (.ref f_textIn) = true)
    (a_need : PySem.W.nsIn K mainGlobals "need_formula" = some (some (.ref f_need)))
    (l_need : K.lookup f_need = some ⟨oc_need, od_need, .func (PySem.W.fnOf "need_formula" "need_formula" (defArgs sNeed) (defBody sNeed) (defScope sNeed) .none kV_need dc_need pm_need an_need cd_need ct_need), sl_need⟩)
    (c_need : PySem.W.codeIn K (cd_need) "need_formula" = true)
    (k_need : PySem.W.keepIn K (.ref f_need) = true)
    (a_chk : PySem.W.nsIn K mainGlobals "check_filling" = some (some (.ref f_chk)))
    (l_chk : K.lookup f_chk = some ⟨oc_chk, od_chk, .func (PySem.W.fnOf "check_filling" "check_filling" (defArgs sChk) (defBody sChk) (defScope sChk) .none kV_chk dc_chk pm_chk an_chk cd_chk ct_chk), sl_chk⟩)
    (c_chk : PySem.W.codeIn K (cd_chk) "check_filling" = true)
    (k_chk : PySem.W.keepIn K (.ref f_chk) = true)
    (a_with : PySem.W.nsIn K mainGlobals "with_filling" = some (some (.ref f_with)))
    (l_with : K.lookup f_with = some ⟨oc_with, od_with, .func (PySem.W.fnOf "with_filling" "with_filling" (defArgs sWith) (defBody sWith) (defScope sWith) .none kV_with dc_with pm_with an_with cd_with ct_with), sl_with⟩)
    (c_with : PySem.W.codeIn K (cd_with) "with_filling" = true)
    (k_with : PySem.W.keepIn K (.ref f_with) = true)
    (a_fsize : PySem.W.nsIn K mainGlobals "filled_size" = some (some (.ref f_fsize)))
    (l_fsize : K.lookup f_fsize = some ⟨oc_fsize, od_fsize, .func (PySem.W.fnOf "filled_size" "filled_size" (defArgs sFSize) (defBody sFSize) (defScope sFSize) .none kV_fsize dc_fsize pm_fsize an_fsize cd_fsize ct_fsize), sl_fsize⟩)
    (c_fsize : PySem.W.codeIn K (cd_fsize) "filled_size" = true)
    (k_fsize : PySem.W.keepIn K (.ref f_fsize) = true)
    (a_readF : PySem.W.nsIn K mainGlobals "read_formula" = some (some (.ref f_readF)))
    (l_readF : K.lookup f_readF = some ⟨oc_readF, od_readF, .func (PySem.W.fnOf "read_formula" "read_formula" (defArgs sReadF) (defBody sReadF) (defScope sReadF) .none kV_readF dc_readF pm_readF an_readF cd_readF ct_readF), sl_readF⟩)
    (c_readF : PySem.W.codeIn K (cd_readF) "read_formula" = true)
    (k_readF : PySem.W.keepIn K (.ref f_readF) = true)
    (a_cells : PySem.W.nsIn K mainGlobals "_law_cells" = some (some (.ref f_cells)))
    (l_cells : K.lookup f_cells = some ⟨oc_cells, od_cells, .func (PySem.W.fnOf "_law_cells" "_law_cells" (defArgs sCells) (defBody sCells) (defScope sCells) .none kV_cells dc_cells pm_cells an_cells cd_cells ct_cells), sl_cells⟩)
    (c_cells : PySem.W.codeIn K (cd_cells) "_law_cells" = true)
    (k_cells : PySem.W.keepIn K (.ref f_cells) = true)
    (a_draw : PySem.W.nsIn K mainGlobals "_law_draw" = some (some (.ref f_draw)))
    (l_draw : K.lookup f_draw = some ⟨oc_draw, od_draw, .func (PySem.W.fnOf "_law_draw" "_law_draw" (defArgs sDraw) (defBody sDraw) (defScope sDraw) .none kV_draw dc_draw pm_draw an_draw cd_draw ct_draw), sl_draw⟩)
    (c_draw : PySem.W.codeIn K (cd_draw) "_law_draw" = true)
    (k_draw : PySem.W.keepIn K (.ref f_draw) = true)
    (a_one : PySem.W.nsIn K mainGlobals "_law_one" = some (some (.ref f_one)))
    (l_one : K.lookup f_one = some ⟨oc_one, od_one, .func (PySem.W.fnOf "_law_one" "_law_one" (defArgs sOne) (defBody sOne) (defScope sOne) .none kV_one dc_one pm_one an_one cd_one ct_one), sl_one⟩)
    (c_one : PySem.W.codeIn K (cd_one) "_law_one" = true)
    (k_one : PySem.W.keepIn K (.ref f_one) = true)
    (a_same : PySem.W.nsIn K mainGlobals "_law_same" = some (some (.ref f_same)))
    (l_same : K.lookup f_same = some ⟨oc_same, od_same, .func (PySem.W.fnOf "_law_same" "_law_same" (defArgs sSame) (defBody sSame) (defScope sSame) .none kV_same dc_same pm_same an_same cd_same ct_same), sl_same⟩)
    (c_same : PySem.W.codeIn K (cd_same) "_law_same" = true)
    (k_same : PySem.W.keepIn K (.ref f_same) = true)
    (a_mixed : PySem.W.nsIn K mainGlobals "_law_mixed" = some (some (.ref f_mixed)))
    (l_mixed : K.lookup f_mixed = some ⟨oc_mixed, od_mixed, .func (PySem.W.fnOf "_law_mixed" "_law_mixed" (defArgs sMixed) (defBody sMixed) (defScope sMixed) .none kV_mixed dc_mixed pm_mixed an_mixed cd_mixed ct_mixed), sl_mixed⟩)
    (c_mixed : PySem.W.codeIn K (cd_mixed) "_law_mixed" = true)
    (k_mixed : PySem.W.keepIn K (.ref f_mixed) = true)
    (a_signs : PySem.W.nsIn K mainGlobals "_law_signs" = some (some (.ref f_signs)))
    (l_signs : K.lookup f_signs = some ⟨oc_signs, od_signs, .func (PySem.W.fnOf "_law_signs" "_law_signs" (defArgs sSigns) (defBody sSigns) (defScope sSigns) .none kV_signs dc_signs pm_signs an_signs cd_signs ct_signs), sl_signs⟩)
    (c_signs : PySem.W.codeIn K (cd_signs) "_law_signs" = true)
    (k_signs : PySem.W.keepIn K (.ref f_signs) = true)
    (a_leaf : PySem.W.nsIn K mainGlobals "_law_leaf" = some (some (.ref f_leaf)))
    (l_leaf : K.lookup f_leaf = some ⟨oc_leaf, od_leaf, .func (PySem.W.fnOf "_law_leaf" "_law_leaf" (defArgs sLeaf) (defBody sLeaf) (defScope sLeaf) .none kV_leaf dc_leaf pm_leaf an_leaf cd_leaf ct_leaf), sl_leaf⟩)
    (c_leaf : PySem.W.codeIn K (cd_leaf) "_law_leaf" = true)
    (k_leaf : PySem.W.keepIn K (.ref f_leaf) = true)
    (a_form : PySem.W.nsIn K mainGlobals "_law_form" = some (some (.ref f_form)))
    (l_form : K.lookup f_form = some ⟨oc_form, od_form, .func (PySem.W.fnOf "_law_form" "_law_form" (defArgs sForm) (defBody sForm) (defScope sForm) .none kV_form dc_form pm_form an_form cd_form ct_form), sl_form⟩)
    (c_form : PySem.W.codeIn K (cd_form) "_law_form" = true)
    (k_form : PySem.W.keepIn K (.ref f_form) = true)
    (a_inner : PySem.W.nsIn K mainGlobals "_law_inner" = some (some (.ref f_inner)))
    (l_inner : K.lookup f_inner = some ⟨oc_inner, od_inner, .func (PySem.W.fnOf "_law_inner" "_law_inner" (defArgs sInner) (defBody sInner) (defScope sInner) .none kV_inner dc_inner pm_inner an_inner cd_inner ct_inner), sl_inner⟩)
    (c_inner : PySem.W.codeIn K (cd_inner) "_law_inner" = true)
    (k_inner : PySem.W.keepIn K (.ref f_inner) = true)
    (a_ltext : PySem.W.nsIn K mainGlobals "_law_text" = some (some (.ref f_ltext)))
    (l_ltext : K.lookup f_ltext = some ⟨oc_ltext, od_ltext, .func (PySem.W.fnOf "_law_text" "_law_text" (defArgs sText2) (defBody sText2) (defScope sText2) .none kV_ltext dc_ltext pm_ltext an_ltext cd_ltext ct_ltext), sl_ltext⟩)
    (c_ltext : PySem.W.codeIn K (cd_ltext) "_law_text" = true)
    (k_ltext : PySem.W.keepIn K (.ref f_ltext) = true)
    (a_made : PySem.W.nsIn K mainGlobals "_law_made" = some (some (.ref f_made)))
    (l_made : K.lookup f_made = some ⟨oc_made, od_made, .func (PySem.W.fnOf "_law_made" "_law_made" (defArgs sMade) (defBody sMade) (defScope sMade) .none kV_made dc_made pm_made an_made cd_made ct_made), sl_made⟩)
    (c_made : PySem.W.codeIn K (cd_made) "_law_made" = true)
    (k_made : PySem.W.keepIn K (.ref f_made) = true)
    (a_lsize : PySem.W.nsIn K mainGlobals "_law_size" = some (some (.ref f_lsize)))
    (l_lsize : K.lookup f_lsize = some ⟨oc_lsize, od_lsize, .func (PySem.W.fnOf "_law_size" "_law_size" (defArgs sSize) (defBody sSize) (defScope sSize) .none kV_lsize dc_lsize pm_lsize an_lsize cd_lsize ct_lsize), sl_lsize⟩)
    (c_lsize : PySem.W.codeIn K (cd_lsize) "_law_size" = true)
    (k_lsize : PySem.W.keepIn K (.ref f_lsize) = true)
    (a_put : PySem.W.nsIn K mainGlobals "_law_put" = some (some (.ref f_put)))
    (l_put : K.lookup f_put = some ⟨oc_put, od_put, .func (PySem.W.fnOf "_law_put" "_law_put" (defArgs sPut) (defBody sPut) (defScope sPut) .none kV_put dc_put pm_put an_put cd_put ct_put), sl_put⟩)
    (c_put : PySem.W.codeIn K (cd_put) "_law_put" = true)
    (k_put : PySem.W.keepIn K (.ref f_put) = true)
    (a_madeAll : PySem.W.nsIn K mainGlobals "_law_made_all" = some (some (.ref f_madeAll)))
    (l_madeAll : K.lookup f_madeAll = some ⟨oc_madeAll, od_madeAll, .func (PySem.W.fnOf "_law_made_all" "_law_made_all" (defArgs sMadeAll) (defBody sMadeAll) (defScope sMadeAll) .none kV_madeAll dc_madeAll pm_madeAll an_madeAll cd_madeAll ct_madeAll), sl_madeAll⟩)
    (c_madeAll : PySem.W.codeIn K (cd_madeAll) "_law_made_all" = true)
    (k_madeAll : PySem.W.keepIn K (.ref f_madeAll) = true)
    (a_filling : PySem.W.nsIn K mainGlobals "_law_filling" = some (some (.ref f_filling)))
    (l_filling : K.lookup f_filling = some ⟨oc_filling, od_filling, .func (PySem.W.fnOf "_law_filling" "_law_filling" (defArgs sFilling) (defBody sFilling) (defScope sFilling) .none kV_filling dc_filling pm_filling an_filling cd_filling ct_filling), sl_filling⟩)
    (c_filling : PySem.W.codeIn K (cd_filling) "_law_filling" = true)
    (k_filling : PySem.W.keepIn K (.ref f_filling) = true)
    (a_field : PySem.W.nsIn K mainGlobals "_law_field" = some (some (.ref f_field)))
    (l_field : K.lookup f_field = some ⟨oc_field, od_field, .func (PySem.W.fnOf "_law_field" "_law_field" (defArgs sField) (defBody sField) (defScope sField) .none kV_field dc_field pm_field an_field cd_field ct_field), sl_field⟩)
    (c_field : PySem.W.codeIn K (cd_field) "_law_field" = true)
    (k_field : PySem.W.keepIn K (.ref f_field) = true)
    (a_try : PySem.W.nsIn K mainGlobals "_law_try" = some (some (.ref f_try)))
    (l_try : K.lookup f_try = some ⟨oc_try, od_try, .func (PySem.W.fnOf "_law_try" "_law_try" (defArgs sTry) (defBody sTry) (defScope sTry) .none kV_try dc_try pm_try an_try cd_try ct_try), sl_try⟩)
    (c_try : PySem.W.codeIn K (cd_try) "_law_try" = true)
    (k_try : PySem.W.keepIn K (.ref f_try) = true)
    (a_law : PySem.W.nsIn K mainGlobals "law" = some (some (.ref f_law)))
    (l_law : K.lookup f_law = some ⟨oc_law, od_law, .func (PySem.W.fnOf "law" "law" (defArgs sLaw) (defBody sLaw) (defScope sLaw) .none kV_law dc_law pm_law an_law (.ref cL) ct_law), sl_law⟩)
    (c_law : PySem.W.codeIn K ((.ref cL)) "law" = true)
    (k_law : PySem.W.keepIn K (.ref f_law) = true)
    (lkC : K.lookup cL = some ⟨eL, ddL, .fields vsL, slL⟩)
    (lkP : vsL[11]? = some (.ref PT))
    (lkN : K.lookup PT = none)
    (lkH : PySem.W.codeHdIn K cL PT = true)
    (aC : PySem.W.nsIn K mainGlobals "Formula" = some (some (.ref C)))
    (aC1 : PySem.W.nsIn K mainGlobals "RootError" = some (some (.ref C1)))
    (aC2 : PySem.W.nsIn K mainGlobals "Missing" = some (some (.ref C2)))
    (aC3 : PySem.W.nsIn K mainGlobals "NothingLeft" = some (some (.ref C3)))
    (aXT_ : PySem.W.nsIn K mainGlobals "InvalidText" = some (some (.ref XT_)))
    (aXF_ : PySem.W.nsIn K mainGlobals "InvalidFilling" = some (some (.ref XF_)))
    (aCR : PySem.W.nsIn K mainGlobals "Reader" = some (some (.ref CR)))
    (a_init : PySem.W.findIn K (.ref C) "__init__" = some (some (.ref f_init)))
    (i_init : PySem.W.isFn K (.ref f_init) = true)
    (l_init : K.lookup f_init = some ⟨oc_init, od_init, .func (PySem.W.fnOf "__init__" "Formula.__init__" (defArgs sInit) (defBody sInit) (defScope sInit) .none kV_init dc_init pm_init an_init cd_init ct_init), sl_init⟩)
    (c_init : PySem.W.codeIn K (cd_init) "Formula.__init__" = true)
    (k_init : PySem.W.keepIn K (.ref f_init) = true)
    (a_text : PySem.W.findIn K (.ref C) "text" = some (some (.ref f_text)))
    (i_text : PySem.W.isFn K (.ref f_text) = true)
    (l_text : K.lookup f_text = some ⟨oc_text, od_text, .func (PySem.W.fnOf "text" "Formula.text" (defArgs sText) (defBody sText) (defScope sText) .none kV_text dc_text pm_text an_text cd_text ct_text), sl_text⟩)
    (c_text : PySem.W.codeIn K (cd_text) "Formula.text" = true)
    (k_text : PySem.W.keepIn K (.ref f_text) = true)
    (a_parts : PySem.W.findIn K (.ref C) "parts" = some (some (.ref f_parts)))
    (i_parts : PySem.W.isFn K (.ref f_parts) = true)
    (l_parts : K.lookup f_parts = some ⟨oc_parts, od_parts, .func (PySem.W.fnOf "parts" "Formula.parts" (defArgs sParts) (defBody sParts) (defScope sParts) .none kV_parts dc_parts pm_parts an_parts cd_parts ct_parts), sl_parts⟩)
    (c_parts : PySem.W.codeIn K (cd_parts) "Formula.parts" = true)
    (k_parts : PySem.W.keepIn K (.ref f_parts) = true)
    (a_eq : PySem.W.findIn K (.ref C) "__eq__" = some (some (.ref f_eq)))
    (i_eq : PySem.W.isFn K (.ref f_eq) = true)
    (l_eq : K.lookup f_eq = some ⟨oc_eq, od_eq, .func (PySem.W.fnOf "__eq__" "Formula.__eq__" (defArgs sEq) (defBody sEq) (defScope sEq) .none kV_eq dc_eq pm_eq an_eq cd_eq ct_eq), sl_eq⟩)
    (c_eq : PySem.W.codeIn K (cd_eq) "Formula.__eq__" = true)
    (k_eq : PySem.W.keepIn K (.ref f_eq) = true)
    (a_neg : PySem.W.findIn K (.ref C) "__neg__" = some (some (.ref f_neg)))
    (i_neg : PySem.W.isFn K (.ref f_neg) = true)
    (l_neg : K.lookup f_neg = some ⟨oc_neg, od_neg, .func (PySem.W.fnOf "__neg__" "Formula.__neg__" (defArgs sNeg) (defBody sNeg) (defScope sNeg) .none kV_neg dc_neg pm_neg an_neg cd_neg ct_neg), sl_neg⟩)
    (c_neg : PySem.W.codeIn K (cd_neg) "Formula.__neg__" = true)
    (k_neg : PySem.W.keepIn K (.ref f_neg) = true)
    (a_and : PySem.W.findIn K (.ref C) "__and__" = some (some (.ref f_and)))
    (i_and : PySem.W.isFn K (.ref f_and) = true)
    (l_and : K.lookup f_and = some ⟨oc_and, od_and, .func (PySem.W.fnOf "__and__" "Formula.__and__" (defArgs sAnd) (defBody sAnd) (defScope sAnd) .none kV_and dc_and pm_and an_and cd_and ct_and), sl_and⟩)
    (c_and : PySem.W.codeIn K (cd_and) "Formula.__and__" = true)
    (k_and : PySem.W.keepIn K (.ref f_and) = true)
    (a_or : PySem.W.findIn K (.ref C) "__or__" = some (some (.ref f_or)))
    (i_or : PySem.W.isFn K (.ref f_or) = true)
    (l_or : K.lookup f_or = some ⟨oc_or, od_or, .func (PySem.W.fnOf "__or__" "Formula.__or__" (defArgs sOr) (defBody sOr) (defScope sOr) .none kV_or dc_or pm_or an_or cd_or ct_or), sl_or⟩)
    (c_or : PySem.W.codeIn K (cd_or) "Formula.__or__" = true)
    (k_or : PySem.W.keepIn K (.ref f_or) = true)
    (a_shr : PySem.W.findIn K (.ref C) "__rshift__" = some (some (.ref f_shr)))
    (i_shr : PySem.W.isFn K (.ref f_shr) = true)
    (l_shr : K.lookup f_shr = some ⟨oc_shr, od_shr, .func (PySem.W.fnOf "__rshift__" "Formula.__rshift__" (defArgs sShr) (defBody sShr) (defScope sShr) .none kV_shr dc_shr pm_shr an_shr cd_shr ct_shr), sl_shr⟩)
    (c_shr : PySem.W.codeIn K (cd_shr) "Formula.__rshift__" = true)
    (k_shr : PySem.W.keepIn K (.ref f_shr) = true)
    (a_filled : PySem.W.findIn K (.ref C) "filled" = some (some (.ref f_filled)))
    (i_filled : PySem.W.isFn K (.ref f_filled) = true)
    (l_filled : K.lookup f_filled = some ⟨oc_filled, od_filled, .func (PySem.W.fnOf "filled" "Formula.filled" (defArgs sFilled) (defBody sFilled) (defScope sFilled) .none kV_filled dc_filled pm_filled an_filled cd_filled ct_filled), sl_filled⟩)
    (c_filled : PySem.W.codeIn K (cd_filled) "Formula.filled" = true)
    (k_filled : PySem.W.keepIn K (.ref f_filled) = true)
    (a_rinit : PySem.W.findIn K (.ref CR) "__init__" = some (some (.ref f_rinit)))
    (i_rinit : PySem.W.isFn K (.ref f_rinit) = true)
    (l_rinit : K.lookup f_rinit = some ⟨oc_rinit, od_rinit, .func (PySem.W.fnOf "__init__" "Reader.__init__" (defArgs sRInit) (defBody sRInit) (defScope sRInit) .none kV_rinit dc_rinit pm_rinit an_rinit cd_rinit ct_rinit), sl_rinit⟩)
    (c_rinit : PySem.W.codeIn K (cd_rinit) "Reader.__init__" = true)
    (k_rinit : PySem.W.keepIn K (.ref f_rinit) = true)
    (a_rskip : PySem.W.findIn K (.ref CR) "skip" = some (some (.ref f_rskip)))
    (i_rskip : PySem.W.isFn K (.ref f_rskip) = true)
    (l_rskip : K.lookup f_rskip = some ⟨oc_rskip, od_rskip, .func (PySem.W.fnOf "skip" "Reader.skip" (defArgs sSkip) (defBody sSkip) (defScope sSkip) .none kV_rskip dc_rskip pm_rskip an_rskip cd_rskip ct_rskip), sl_rskip⟩)
    (c_rskip : PySem.W.codeIn K (cd_rskip) "Reader.skip" = true)
    (k_rskip : PySem.W.keepIn K (.ref f_rskip) = true)
    (a_rsign : PySem.W.findIn K (.ref CR) "sign" = some (some (.ref f_rsign)))
    (i_rsign : PySem.W.isFn K (.ref f_rsign) = true)
    (l_rsign : K.lookup f_rsign = some ⟨oc_rsign, od_rsign, .func (PySem.W.fnOf "sign" "Reader.sign" (defArgs sSign) (defBody sSign) (defScope sSign) .none kV_rsign dc_rsign pm_rsign an_rsign cd_rsign ct_rsign), sl_rsign⟩)
    (c_rsign : PySem.W.codeIn K (cd_rsign) "Reader.sign" = true)
    (k_rsign : PySem.W.keepIn K (.ref f_rsign) = true)
    (a_rform : PySem.W.findIn K (.ref CR) "formula" = some (some (.ref f_rform)))
    (i_rform : PySem.W.isFn K (.ref f_rform) = true)
    (l_rform : K.lookup f_rform = some ⟨oc_rform, od_rform, .func (PySem.W.fnOf "formula" "Reader.formula" (defArgs sRForm) (defBody sRForm) (defScope sRForm) .none kV_rform dc_rform pm_rform an_rform cd_rform ct_rform), sl_rform⟩)
    (c_rform : PySem.W.codeIn K (cd_rform) "Reader.formula" = true)
    (k_rform : PySem.W.keepIn K (.ref f_rform) = true)
    (a_rpair : PySem.W.findIn K (.ref CR) "pair" = some (some (.ref f_rpair)))
    (i_rpair : PySem.W.isFn K (.ref f_rpair) = true)
    (l_rpair : K.lookup f_rpair = some ⟨oc_rpair, od_rpair, .func (PySem.W.fnOf "pair" "Reader.pair" (defArgs sPair) (defBody sPair) (defScope sPair) .none kV_rpair dc_rpair pm_rpair an_rpair cd_rpair ct_rpair), sl_rpair⟩)
    (c_rpair : PySem.W.codeIn K (cd_rpair) "Reader.pair" = true)
    (k_rpair : PySem.W.keepIn K (.ref f_rpair) = true)
    (a_pword : PySem.W.findIn K (.ref C) "word" = some (some (.ref p_pword)))
    (g_pword : PySem.W.specialIn K (.ref p_pword) "__get__" = some (some (.builtin "property.__get__")))
    (t_pword : PySem.W.takesIn K (.ref p_pword) = some true)
    (q_pword : PySem.W.recIn K p_pword "property" = some (.ref f_pword :: r_pword))
    (l_pword : K.lookup f_pword = some ⟨oc_pword, od_pword, .func (PySem.W.fnOf "word" "Formula.word" (defArgs s_word) (defBody s_word) (defScope s_word) .none kV_pword dc_pword pm_pword an_pword cd_pword ct_pword), sl_pword⟩)
    (c_pword : PySem.W.codeIn K (cd_pword) "Formula.word" = true)
    (k_pword : PySem.W.keepIn K (.ref f_pword) = true)
    (a_pletters : PySem.W.findIn K (.ref C) "letters" = some (some (.ref p_pletters)))
    (g_pletters : PySem.W.specialIn K (.ref p_pletters) "__get__" = some (some (.builtin "property.__get__")))
    (t_pletters : PySem.W.takesIn K (.ref p_pletters) = some true)
    (q_pletters : PySem.W.recIn K p_pletters "property" = some (.ref f_pletters :: r_pletters))
    (l_pletters : K.lookup f_pletters = some ⟨oc_pletters, od_pletters, .func (PySem.W.fnOf "letters" "Formula.letters" (defArgs s_letters) (defBody s_letters) (defScope s_letters) .none kV_pletters dc_pletters pm_pletters an_pletters cd_pletters ct_pletters), sl_pletters⟩)
    (c_pletters : PySem.W.codeIn K (cd_pletters) "Formula.letters" = true)
    (k_pletters : PySem.W.keepIn K (.ref f_pletters) = true)
    (a_psize : PySem.W.findIn K (.ref C) "size" = some (some (.ref p_psize)))
    (g_psize : PySem.W.specialIn K (.ref p_psize) "__get__" = some (some (.builtin "property.__get__")))
    (t_psize : PySem.W.takesIn K (.ref p_psize) = some true)
    (q_psize : PySem.W.recIn K p_psize "property" = some (.ref f_psize :: r_psize))
    (l_psize : K.lookup f_psize = some ⟨oc_psize, od_psize, .func (PySem.W.fnOf "size" "Formula.size" (defArgs s_size) (defBody s_size) (defScope s_size) .none kV_psize dc_psize pm_psize an_psize cd_psize ct_psize), sl_psize⟩)
    (c_psize : PySem.W.codeIn K (cd_psize) "Formula.size" = true)
    (k_psize : PySem.W.keepIn K (.ref f_psize) = true)
    (a_pnested : PySem.W.findIn K (.ref C) "nested" = some (some (.ref p_pnested)))
    (g_pnested : PySem.W.specialIn K (.ref p_pnested) "__get__" = some (some (.builtin "property.__get__")))
    (t_pnested : PySem.W.takesIn K (.ref p_pnested) = some true)
    (q_pnested : PySem.W.recIn K p_pnested "property" = some (.ref f_pnested :: r_pnested))
    (l_pnested : K.lookup f_pnested = some ⟨oc_pnested, od_pnested, .func (PySem.W.fnOf "nested" "Formula.nested" (defArgs s_nested) (defBody s_nested) (defScope s_nested) .none kV_pnested dc_pnested pm_pnested an_pnested cd_pnested ct_pnested), sl_pnested⟩)
    (c_pnested : PySem.W.codeIn K (cd_pnested) "Formula.nested" = true)
    (k_pnested : PySem.W.keepIn K (.ref f_pnested) = true)
    (a_pdepth : PySem.W.findIn K (.ref C) "depth" = some (some (.ref p_pdepth)))
    (g_pdepth : PySem.W.specialIn K (.ref p_pdepth) "__get__" = some (some (.builtin "property.__get__")))
    (t_pdepth : PySem.W.takesIn K (.ref p_pdepth) = some true)
    (q_pdepth : PySem.W.recIn K p_pdepth "property" = some (.ref f_pdepth :: r_pdepth))
    (l_pdepth : K.lookup f_pdepth = some ⟨oc_pdepth, od_pdepth, .func (PySem.W.fnOf "depth" "Formula.depth" (defArgs s_depth) (defBody s_depth) (defScope s_depth) .none kV_pdepth dc_pdepth pm_pdepth an_pdepth cd_pdepth ct_pdepth), sl_pdepth⟩)
    (c_pdepth : PySem.W.codeIn K (cd_pdepth) "Formula.depth" = true)
    (k_pdepth : PySem.W.keepIn K (.ref f_pdepth) = true)
    (a_strue : PySem.W.findCls K (.ref C) (.type "type") "true" = some (.get (.builtin "staticmethod.__get__") (.ref p_strue) .none (.ref C)))
    (q_strue : PySem.W.recIn K p_strue "staticmethod" = some (.ref f_strue :: r_strue))
    (l_strue : K.lookup f_strue = some ⟨oc_strue, od_strue, .func (PySem.W.fnOf "true" "Formula.true" (defArgs sTrue) (defBody sTrue) (defScope sTrue) .none kV_strue dc_strue pm_strue an_strue cd_strue ct_strue), sl_strue⟩)
    (c_strue : PySem.W.codeIn K (cd_strue) "Formula.true" = true)
    (k_strue : PySem.W.keepIn K (.ref f_strue) = true)
    (a_sfalse : PySem.W.findCls K (.ref C) (.type "type") "false" = some (.get (.builtin "staticmethod.__get__") (.ref p_sfalse) .none (.ref C)))
    (q_sfalse : PySem.W.recIn K p_sfalse "staticmethod" = some (.ref f_sfalse :: r_sfalse))
    (l_sfalse : K.lookup f_sfalse = some ⟨oc_sfalse, od_sfalse, .func (PySem.W.fnOf "false" "Formula.false" (defArgs sFalse) (defBody sFalse) (defScope sFalse) .none kV_sfalse dc_sfalse pm_sfalse an_sfalse cd_sfalse ct_sfalse), sl_sfalse⟩)
    (c_sfalse : PySem.W.codeIn K (cd_sfalse) "Formula.false" = true)
    (k_sfalse : PySem.W.keepIn K (.ref f_sfalse) = true)
    (a_sletter : PySem.W.findCls K (.ref C) (.type "type") "letter" = some (.get (.builtin "staticmethod.__get__") (.ref p_sletter) .none (.ref C)))
    (q_sletter : PySem.W.recIn K p_sletter "staticmethod" = some (.ref f_sletter :: r_sletter))
    (l_sletter : K.lookup f_sletter = some ⟨oc_sletter, od_sletter, .func (PySem.W.fnOf "letter" "Formula.letter" (defArgs sLetter) (defBody sLetter) (defScope sLetter) .none kV_sletter dc_sletter pm_sletter an_sletter cd_sletter ct_sletter), sl_sletter⟩)
    (c_sletter : PySem.W.codeIn K (cd_sletter) "Formula.letter" = true)
    (k_sletter : PySem.W.keepIn K (.ref f_sletter) = true)
    (Cpg : PySem.W.plainGet K C Str.empty = true)
    (Chd : PySem.W.hasDictIn K C = true)
    (Cpo : PySem.W.plainOver K C = true)
    (Csa : PySem.W.findIn K (.ref C) "__setattr__" = some (some (.builtin "object.__setattr__")))
    (Cmk : PySem.W.makesIn K C = true)
    (Ckc : PySem.W.keepIn K (.ref C) = true)
    (Cca : PySem.W.findIn K (.ref C) "__class__" = some (some (.builtin "object.__class__")))
    (Ccm : PySem.W.mroIn K C (.type "object") = some true)
    (Crd : PySem.W.readsIn K C (.type "type") = true)
    (Cga : PySem.W.specialIn K (.ref C) "__getattribute__" = some (some (.builtin "type.__getattribute__")))
    (CRpg : PySem.W.plainGet K CR Str.empty = true)
    (CRhd : PySem.W.hasDictIn K CR = true)
    (CRpo : PySem.W.plainOver K CR = true)
    (CRsa : PySem.W.findIn K (.ref CR) "__setattr__" = some (some (.builtin "object.__setattr__")))
    (CRmk : PySem.W.makesIn K CR = true)
    (CRkc : PySem.W.keepIn K (.ref CR) = true)
    (CRca : PySem.W.findIn K (.ref CR) "__class__" = some (some (.builtin "object.__class__")))
    (CRcm : PySem.W.mroIn K CR (.type "object") = some true)
    (CRrd : PySem.W.readsIn K CR (.type "type") = true)
    (CRga : PySem.W.specialIn K (.ref CR) "__getattribute__" = some (some (.builtin "type.__getattribute__")))
    (cn : PySem.W.specialIn K (.builtin "object.__class__") "__get__" = some (some (.builtin "getset_descriptor.__get__")))
    (ct : PySem.W.takesIn K (.builtin "object.__class__") = some true)
    (nC_own_word : PySem.W.findIn K (.ref C) "own_word" = some none)
    (nC_own_parts : PySem.W.findIn K (.ref C) "own_parts" = some none)
    (nC_own_text : PySem.W.findIn K (.ref C) "own_text" = some none)
    (nC_own_size : PySem.W.findIn K (.ref C) "own_size" = some none)
    (nC_own_nested : PySem.W.findIn K (.ref C) "own_nested" = some none)
    (nC_own_depth : PySem.W.findIn K (.ref C) "own_depth" = some none)
    (nC_own_letters : PySem.W.findIn K (.ref C) "own_letters" = some none)
    (nCR_source : PySem.W.findIn K (.ref CR) "source" = some none)
    (nCR_at : PySem.W.findIn K (.ref CR) "at" = some none)
    (E0xt : K.lookup XT_ = some (excClassObj nmxt qxt XT_ Nxt bsxt bmxt true snxt subxt abxt colxt ddxt kaxt kbxt kcxt kdxt kext "ValueError.__new__"))
    (E1xt : PySem.HandSPX.refsVE bmxt = true)
    (E2xt : PySem.W.findIn K (.ref XT_) "__setattr__" = some (some (.builtin "object.__setattr__")))
    (E3xt : PySem.W.findIn K (.ref XT_) "code" = some none)
    (E4xt : PySem.W.findIn K (.ref XT_) "__init__" = some (some (.ref fixt)))
    (E5xt : PySem.W.typeIn K (.ref fixt) = some (.type "function"))
    (E6xt : PySem.W.keepIn K (.ref XT_) = true)
    (E7xt : PySem.W.subIn K (.ref XT_) (.type "BaseException") = some true)
    (E8xt : PySem.W.subIn K (.ref XT_) (.type "ValueError") = some true)
    (E9xt : PySem.W.typeIn K (.ref XT_) = some (.type "type"))
    (Eaxt : PySem.W.ks_superIn K XT_ XT_ "__init__" = some (some (.builtin "ValueError.__init__")))
    (Ebxt : PySem.W.mroIn K XT_ (.ref XT_) = some true)
    (Ecxt : K.lookup fixt = some ⟨ocxt, odxt, .func (PySem.W.ksFn "__init__" "InvalidText.__init__" (defArgs sXI_InvalidText) (defBody sXI_InvalidText) (defScope sXI_InvalidText) .none .none dcxt pmxt anxt (.ref cdaxt) ctxt ccxt), slxt⟩)
    (Edxt : K.lookup cdaxt = some ⟨cclxt, cddxt, .fields vsxt, ccsxt⟩)
    (Eext : vsxt[2]? = some (.str filext tfxt))
    (Efxt : ((l.prog.main.file : Str) == filext) = true)
    (Egxt : K.lookup ccxt = some ⟨clxt, cldxt, .cell (some (.ref XT_)), cslxt⟩)
    (Ehxt : PySem.W.codeIn K (.ref cdaxt) "InvalidText.__init__" = true)
    (Eixt : PySem.W.findIn K (.ref XT_) "__getattribute__" = some (some (.builtin "BaseException.__getattribute__")))
    (Ejxt : PySem.W.findIn K (.ref XT_) "__getattr__" = some none)
    (Ekxt : PySem.W.hasDictIn K XT_ = true)
    (Elxt : PySem.W.exmAny K (.ref XT_) [.ref C1, .ref C2, .ref C3] = some true)
    (E0xf : K.lookup XF_ = some (excClassObj nmxf qxf XF_ Nxf bsxf bmxf true snxf subxf abxf colxf ddxf kaxf kbxf kcxf kdxf kexf "ValueError.__new__"))
    (E1xf : PySem.HandSPX.refsVE bmxf = true)
    (E2xf : PySem.W.findIn K (.ref XF_) "__setattr__" = some (some (.builtin "object.__setattr__")))
    (E3xf : PySem.W.findIn K (.ref XF_) "code" = some none)
    (E4xf : PySem.W.findIn K (.ref XF_) "__init__" = some (some (.ref fixf)))
    (E5xf : PySem.W.typeIn K (.ref fixf) = some (.type "function"))
    (E6xf : PySem.W.keepIn K (.ref XF_) = true)
    (E7xf : PySem.W.subIn K (.ref XF_) (.type "BaseException") = some true)
    (E8xf : PySem.W.subIn K (.ref XF_) (.type "ValueError") = some true)
    (E9xf : PySem.W.typeIn K (.ref XF_) = some (.type "type"))
    (Eaxf : PySem.W.ks_superIn K XF_ XF_ "__init__" = some (some (.builtin "ValueError.__init__")))
    (Ebxf : PySem.W.mroIn K XF_ (.ref XF_) = some true)
    (Ecxf : K.lookup fixf = some ⟨ocxf, odxf, .func (PySem.W.ksFn "__init__" "InvalidFilling.__init__" (defArgs sXI_InvalidFilling) (defBody sXI_InvalidFilling) (defScope sXI_InvalidFilling) .none .none dcxf pmxf anxf (.ref cdaxf) ctxf ccxf), slxf⟩)
    (Edxf : K.lookup cdaxf = some ⟨cclxf, cddxf, .fields vsxf, ccsxf⟩)
    (Eexf : vsxf[2]? = some (.str filexf tfxf))
    (Efxf : ((l.prog.main.file : Str) == filexf) = true)
    (Egxf : K.lookup ccxf = some ⟨clxf, cldxf, .cell (some (.ref XF_)), cslxf⟩)
    (Ehxf : PySem.W.codeIn K (.ref cdaxf) "InvalidFilling.__init__" = true)
    (Eixf : PySem.W.findIn K (.ref XF_) "__getattribute__" = some (some (.builtin "BaseException.__getattribute__")))
    (Ejxf : PySem.W.findIn K (.ref XF_) "__getattr__" = some none)
    (Ekxf : PySem.W.hasDictIn K XF_ = true)
    (Elxf : PySem.W.exmAny K (.ref XF_) [.ref C1, .ref C2, .ref C3] = some true)
    (Emxf : PySem.W.findIn K (.ref XF_) "key" = some none)
    (Es1 : PySem.W.nsIn K cStatics "thirdparty.any" = some none)
    (Es2 : PySem.W.nsIn K mainGlobals "super" = some none)
    (Es3 : (l.prog.main.scope.names.lookup ("super" : Str)).isSome = false)
    (nf : PySem.W.notFirst K C (.ref C) = true)
    (most : PySem.W.findCls K (.ref C) (.type "type") "MOST_NESTED" = some (.val (.int 60 tmost)))
    (sfq : PySem.W.selfFirst K C = true)
    (al : PySem.W.nsIn K mainGlobals "ALPHABET" = some (some (.str "abcdefghijklmnopqrstuvwxyz" tal)))
    (aS : PySem.W.nsIn K mainGlobals "SIGNS" = some (some (.ref pa)))
    (lS : K.lookup pa = some ⟨.type "dict", none, .dict es ne, #[]⟩)
    (kS : PySem.W.KeysLit w.params es.toList)
    (vA : PySem.W.nsIn K pa "and" = some (some (.str " & " ta)))
    (vO : PySem.W.nsIn K pa "or" = some (some (.str " | " to)))
    (vI : PySem.W.nsIn K pa "if" = some (some (.str " -> " ti)))
    (sfC_list : PySem.W.kitOne K (.ref C) (.type "list") = some false)
    (sfC_tuple : PySem.W.kitOne K (.ref C) (.type "tuple") = some false)
    (sfC_bool : PySem.W.kitOne K (.ref C) (.type "bool") = some false)
    (sfC_int : PySem.W.kitOne K (.ref C) (.type "int") = some false)
    (sfC_str : PySem.W.kitOne K (.ref C) (.type "str") = some false)
    (noC_NoneType : PySem.W.kitOne K (.type "NoneType") (.ref C) = some false)
    (noC_bool : PySem.W.kitOne K (.type "bool") (.ref C) = some false)
    (noC_int : PySem.W.kitOne K (.type "int") (.ref C) = some false)
    (noC_str : PySem.W.kitOne K (.type "str") (.ref C) = some false)
    (noC_list : PySem.W.kitOne K (.type "list") (.ref C) = some false)
    (noC_tuple : PySem.W.kitOne K (.type "tuple") (.ref C) = some false)
    (noC_dict : PySem.W.kitOne K (.type "dict") (.ref C) = some false)
    (z_len : PySem.W.nsIn K mainGlobals "len" = some none)
    (z_int : PySem.W.nsIn K mainGlobals "int" = some none)
    (z_list : PySem.W.nsIn K mainGlobals "list" = some none)
    (z_sorted : PySem.W.nsIn K mainGlobals "sorted" = some none)
    (z_range : PySem.W.nsIn K mainGlobals "range" = some none)
    (z_isinstance : PySem.W.nsIn K mainGlobals "isinstance" = some none)
    (z_all : PySem.W.nsIn K mainGlobals "all" = some none)
    (z_any : PySem.W.nsIn K mainGlobals "any" = some none)
    (z_zip : PySem.W.nsIn K mainGlobals "zip" = some none)
    (z_sum : PySem.W.nsIn K mainGlobals "sum" = some none)
    (z_max : PySem.W.nsIn K mainGlobals "max" = some none)
    (z_str : PySem.W.nsIn K mainGlobals "str" = some none)
    (z_bool : PySem.W.nsIn K mainGlobals "bool" = some none)
    (z_tuple : PySem.W.nsIn K mainGlobals "tuple" = some none)
    (z_set : PySem.W.nsIn K mainGlobals "set" = some none)
    (z_dict : PySem.W.nsIn K mainGlobals "dict" = some none)
    (z_min : PySem.W.nsIn K mainGlobals "min" = some none)
    : LawAtS l w K (L2.CX l.prog w) 151 63 "_law_script" mg fa h := by
  have e := hfa.symm.trans (PySem.W.mg_of X G a_law)
  cases e
  have mC := PySem.W.mg_of X G aC
  have mC1 := PySem.W.mg_of X G aC1
  have mC2 := PySem.W.mg_of X G aC2
  have mC3 := PySem.W.mg_of X G aC3
  have mXT_ := PySem.W.mg_of X G aXT_
  have mXF_ := PySem.W.mg_of X G aXF_
  have mCR := PySem.W.mg_of X G aCR
  have clC : Cls K C := ⟨Cpg, Chd, Cpo, Csa⟩
  have crC : ClX.CRead K C (.type "type") := ⟨Crd, Cga⟩
  have ciC : ClsI K C := ⟨clC, Cca, cn, ct, Ccm⟩
  have clCR : Cls K CR := ⟨CRpg, CRhd, CRpo, CRsa⟩
  have crCR : ClX.CRead K CR (.type "type") := ⟨CRrd, CRga⟩
  have ciCR : ClsI K CR := ⟨clCR, CRca, cn, ct, CRcm⟩
  have B : Blt mg := ⟨PySem.W.mg_none_of X G z_len, PySem.W.mg_none_of X G z_int, PySem.W.mg_none_of X G z_list, PySem.W.mg_none_of X G z_sorted, PySem.W.mg_none_of X G z_range, PySem.W.mg_none_of X G z_isinstance, PySem.W.mg_none_of X G z_all, PySem.W.mg_none_of X G z_any, PySem.W.mg_none_of X G z_zip, PySem.W.mg_none_of X G z_sum, PySem.W.mg_none_of X G z_max, PySem.W.mg_none_of X G z_str, PySem.W.mg_none_of X G z_bool, PySem.W.mg_none_of X G z_tuple, PySem.W.mg_none_of X G z_set⟩
  have F_isLet := fun_mk (st := sIsLet) l_isLet c_isLet k_isLet
  have b_isLet := F_isLet.binds (ps := ["value"]) fun _ _ _ _ _ _ us hl => match us, hl with | [_], _ => rfl
  have F_letIn := fun_mk (st := sLetIn) l_letIn c_letIn k_letIn
  have b_letIn := F_letIn.binds (ps := ["texts"]) fun _ _ _ _ _ _ us hl => match us, hl with | [_], _ => rfl
  have F_isForm := fun_mk (st := sIsForm) l_isForm c_isForm k_isForm
  have b_isForm := F_isForm.binds (ps := ["word", "parts"]) fun _ _ _ _ _ _ us hl => match us, hl with | [_, _], _ => rfl
  have F_textIn := fun_mk (st := sTextIn) l_textIn c_textIn k_textIn
  have b_textIn := F_textIn.binds (ps := ["word", "parts"]) fun _ _ _ _ _ _ us hl => match us, hl with | [_, _], _ => rfl
  have F_need := fun_mk (st := sNeed) l_need c_need k_need
  have b_need := F_need.binds (ps := ["value"]) fun _ _ _ _ _ _ us hl => match us, hl with | [_], _ => rfl
  have F_chk := fun_mk (st := sChk) l_chk c_chk k_chk
  have b_chk := F_chk.binds (ps := ["filling"]) fun _ _ _ _ _ _ us hl => match us, hl with | [_], _ => rfl
  have F_with := fun_mk (st := sWith) l_with c_with k_with
  have b_with := F_with.binds (ps := ["formula", "filling"]) fun _ _ _ _ _ _ us hl => match us, hl with | [_, _], _ => rfl
  have F_fsize := fun_mk (st := sFSize) l_fsize c_fsize k_fsize
  have b_fsize := F_fsize.binds (ps := ["formula", "filling"]) fun _ _ _ _ _ _ us hl => match us, hl with | [_, _], _ => rfl
  have F_readF := fun_mk (st := sReadF) l_readF c_readF k_readF
  have b_readF := F_readF.binds (ps := ["text"]) fun _ _ _ _ _ _ us hl => match us, hl with | [_], _ => rfl
  have F_cells := fun_mk (st := sCells) l_cells c_cells k_cells
  have b_cells := F_cells.binds (ps := ["_law_script"]) fun _ _ _ _ _ _ us hl => match us, hl with | [_], _ => rfl
  have F_draw := fun_mk (st := sDraw) l_draw c_draw k_draw
  have b_draw := F_draw.binds (ps := ["_law_bag", "_law_sides"]) fun _ _ _ _ _ _ us hl => match us, hl with | [_, _], _ => rfl
  have F_one := fun_mk (st := sOne) l_one c_one k_one
  have b_one := F_one.binds (ps := ["_law_bag", "_law_things"]) fun _ _ _ _ _ _ us hl => match us, hl with | [_, _], _ => rfl
  have F_same := fun_mk (st := sSame) l_same c_same k_same
  have b_same := F_same.binds (ps := ["_law_found", "_law_due"]) fun _ _ _ _ _ _ us hl => match us, hl with | [_, _], _ => rfl
  have F_mixed := fun_mk (st := sMixed) l_mixed c_mixed k_mixed
  have b_mixed := F_mixed.binds (ps := ["_law_bag", "_law_things"]) fun _ _ _ _ _ _ us hl => match us, hl with | [_, _], _ => rfl
  have F_signs := fun_mk (st := sSigns) l_signs c_signs k_signs
  have b_signs := F_signs.binds (ps := ["_law_bag", "_law_many"]) fun _ _ _ _ _ _ us hl => match us, hl with | [_, _], _ => rfl
  have F_leaf := fun_mk (st := sLeaf) l_leaf c_leaf k_leaf
  have b_leaf := F_leaf.binds (ps := ["_law_bag", "_law_signs_here"]) fun _ _ _ _ _ _ us hl => match us, hl with | [_, _], _ => rfl
  have F_form := fun_mk (st := sForm) l_form c_form k_form
  have b_form := F_form.binds (ps := ["_law_bag", "_law_signs_here", "_law_deep"]) fun _ _ _ _ _ _ us hl => match us, hl with | [_, _, _], _ => rfl
  have F_inner := fun_mk (st := sInner) l_inner c_inner k_inner
  have b_inner := F_inner.binds (ps := ["_law_mine"]) fun _ _ _ _ _ _ us hl => match us, hl with | [_], _ => rfl
  have F_ltext := fun_mk (st := sText2) l_ltext c_ltext k_ltext
  have b_ltext := F_ltext.binds (ps := ["_law_mine"]) fun _ _ _ _ _ _ us hl => match us, hl with | [_], _ => rfl
  have F_made := fun_mk (st := sMade) l_made c_made k_made
  have b_made := F_made.binds (ps := ["_law_mine"]) fun _ _ _ _ _ _ us hl => match us, hl with | [_], _ => rfl
  have F_lsize := fun_mk (st := sSize) l_lsize c_lsize k_lsize
  have b_lsize := F_lsize.binds (ps := ["_law_mine"]) fun _ _ _ _ _ _ us hl => match us, hl with | [_], _ => rfl
  have F_put := fun_mk (st := sPut) l_put c_put k_put
  have b_put := F_put.binds (ps := ["_law_mine", "_law_given"]) fun _ _ _ _ _ _ us hl => match us, hl with | [_, _], _ => rfl
  have F_madeAll := fun_mk (st := sMadeAll) l_madeAll c_madeAll k_madeAll
  have b_madeAll := F_madeAll.binds (ps := ["_law_given"]) fun _ _ _ _ _ _ us hl => match us, hl with | [_], _ => rfl
  have F_filling := fun_mk (st := sFilling) l_filling c_filling k_filling
  have b_filling := F_filling.binds (ps := ["_law_bag", "_law_signs_here", "_law_targets", "_law_deep"]) fun _ _ _ _ _ _ us hl => match us, hl with | [_, _, _, _], _ => rfl
  have F_field := fun_mk (st := sField) l_field c_field k_field
  have b_field := F_field.binds (ps := ["_law_e"]) fun _ _ _ _ _ _ us hl => match us, hl with | [_], _ => rfl
  have F_try := fun_mk (st := sTry) l_try c_try k_try
  have b_try := F_try.binds (ps := ["_law_ask"]) fun _ _ _ _ _ _ us hl => match us, hl with | [_], _ => rfl
  have F_init := fun_mk (st := sInit) l_init c_init k_init
  have F_text := fun_mk (st := sText) l_text c_text k_text
  have b_text := F_text.binds (ps := ["self"]) fun _ _ _ _ _ _ us hl => match us, hl with | [_], _ => rfl
  have F_parts := fun_mk (st := sParts) l_parts c_parts k_parts
  have b_parts := F_parts.binds (ps := ["self"]) fun _ _ _ _ _ _ us hl => match us, hl with | [_], _ => rfl
  have F_eq := fun_mk (st := sEq) l_eq c_eq k_eq
  have b_eq := F_eq.binds (ps := ["self", "other"]) fun _ _ _ _ _ _ us hl => match us, hl with | [_, _], _ => rfl
  have F_neg := fun_mk (st := sNeg) l_neg c_neg k_neg
  have b_neg := F_neg.binds (ps := ["self"]) fun _ _ _ _ _ _ us hl => match us, hl with | [_], _ => rfl
  have F_and := fun_mk (st := sAnd) l_and c_and k_and
  have b_and := F_and.binds (ps := ["self", "other"]) fun _ _ _ _ _ _ us hl => match us, hl with | [_, _], _ => rfl
  have F_or := fun_mk (st := sOr) l_or c_or k_or
  have b_or := F_or.binds (ps := ["self", "other"]) fun _ _ _ _ _ _ us hl => match us, hl with | [_, _], _ => rfl
  have F_shr := fun_mk (st := sShr) l_shr c_shr k_shr
  have b_shr := F_shr.binds (ps := ["self", "other"]) fun _ _ _ _ _ _ us hl => match us, hl with | [_, _], _ => rfl
  have F_filled := fun_mk (st := sFilled) l_filled c_filled k_filled
  have b_filled := F_filled.binds (ps := ["self", "filling"]) fun _ _ _ _ _ _ us hl => match us, hl with | [_, _], _ => rfl
  have F_rinit := fun_mk (st := sRInit) l_rinit c_rinit k_rinit
  have b_rinit := F_rinit.binds (ps := ["self", "text"]) fun _ _ _ _ _ _ us hl => match us, hl with | [_, _], _ => rfl
  have F_rskip := fun_mk (st := sSkip) l_rskip c_rskip k_rskip
  have b_rskip := F_rskip.binds (ps := ["self", "sign"]) fun _ _ _ _ _ _ us hl => match us, hl with | [_, _], _ => rfl
  have F_rsign := fun_mk (st := sSign) l_rsign c_rsign k_rsign
  have b_rsign := F_rsign.binds (ps := ["self"]) fun _ _ _ _ _ _ us hl => match us, hl with | [_], _ => rfl
  have F_rform := fun_mk (st := sRForm) l_rform c_rform k_rform
  have b_rform := F_rform.binds (ps := ["self", "room"]) fun _ _ _ _ _ _ us hl => match us, hl with | [_, _], _ => rfl
  have F_rpair := fun_mk (st := sPair) l_rpair c_rpair k_rpair
  have b_rpair := F_rpair.binds (ps := ["self", "room"]) fun _ _ _ _ _ _ us hl => match us, hl with | [_, _], _ => rfl
  have F_pword := fun_mk (st := s_word) l_pword c_pword k_pword
  have b_pword := F_pword.binds (ps := ["self"]) fun _ _ _ _ _ _ us hl => match us, hl with | [_], _ => rfl
  have F_pletters := fun_mk (st := s_letters) l_pletters c_pletters k_pletters
  have b_pletters := F_pletters.binds (ps := ["self"]) fun _ _ _ _ _ _ us hl => match us, hl with | [_], _ => rfl
  have F_psize := fun_mk (st := s_size) l_psize c_psize k_psize
  have b_psize := F_psize.binds (ps := ["self"]) fun _ _ _ _ _ _ us hl => match us, hl with | [_], _ => rfl
  have F_pnested := fun_mk (st := s_nested) l_pnested c_pnested k_pnested
  have b_pnested := F_pnested.binds (ps := ["self"]) fun _ _ _ _ _ _ us hl => match us, hl with | [_], _ => rfl
  have F_pdepth := fun_mk (st := s_depth) l_pdepth c_pdepth k_pdepth
  have b_pdepth := F_pdepth.binds (ps := ["self"]) fun _ _ _ _ _ _ us hl => match us, hl with | [_], _ => rfl
  have F_strue := fun_mk (st := sTrue) l_strue c_strue k_strue
  have b_strue := F_strue.binds (ps := []) fun _ _ _ _ _ _ us hl => match us, hl with | [], _ => rfl
  have F_sfalse := fun_mk (st := sFalse) l_sfalse c_sfalse k_sfalse
  have b_sfalse := F_sfalse.binds (ps := []) fun _ _ _ _ _ _ us hl => match us, hl with | [], _ => rfl
  have F_sletter := fun_mk (st := sLetter) l_sletter c_sletter k_sletter
  have b_sletter := F_sletter.binds (ps := ["name"]) fun _ _ _ _ _ _ us hl => match us, hl with | [_], _ => rfl
  have S_xt : Ox.SupC l.prog K XT_ fixt := ⟨⟨_, _, _, _, _, _, _, _, _, _, _, _, _, _, _, E0xt, E1xt⟩, E2xt, E3xt, E4xt, E5xt, E6xt, E7xt, E8xt, E9xt, Es1, Eaxt, Ebxt, Es2, Es3⟩
  have I_xt : Ox.SupI l.prog K XT_ fixt "InvalidText.__init__" (defArgs sXI_InvalidText) (defBody sXI_InvalidText) (defScope sXI_InvalidText) := ⟨⟨_, _, _, _, _, _, _, _, _, Ecxt, ⟨_, _, _, _, _, _, Edxt, Eext, Efxt⟩, ⟨_, _, _, Egxt⟩, Ehxt⟩, by decide +kernel, rfl, rfl, rfl, rfl, rfl, rfl, ⟨_, rfl, rfl⟩⟩
  have S_xf : Ox.SupC l.prog K XF_ fixf := ⟨⟨_, _, _, _, _, _, _, _, _, _, _, _, _, _, _, E0xf, E1xf⟩, E2xf, E3xf, E4xf, E5xf, E6xf, E7xf, E8xf, E9xf, Es1, Eaxf, Ebxf, Es2, Es3⟩
  have I_xf : Ox.SupI l.prog K XF_ fixf "InvalidFilling.__init__" (defArgs sXI_InvalidFilling) (defBody sXI_InvalidFilling) (defScope sXI_InvalidFilling) := ⟨⟨_, _, _, _, _, _, _, _, _, Ecxf, ⟨_, _, _, _, _, _, Edxf, Eexf, Efxf⟩, ⟨_, _, _, Egxf⟩, Ehxf⟩, by decide +kernel, rfl, rfl, rfl, rfl, rfl, rfl, ⟨_, rfl, rfl⟩⟩
  have hPT : h.get? PT = some { cls := .none, data := .fields #[] } := own cL PT _ _ _ _ _ _ l_law rfl rfl lkC lkP
  refine ⟨PySem.W.fnOf "law" "law" (defArgs sLaw) (defBody sLaw) (defScope sLaw) .none kV_law dc_law pm_law an_law (.ref cL) ct_law, [(cL, PT)], fnSp K mg LawPre (fun ns => [.scr ns]) (fun _ => [(PT, .tab qn)]) (fun _ => .bl true) (fun _ => [(PT, .tab qn)]), (fun p hp => by
    rcases List.mem_singleton.mp hp with rfl
    exact hPT), (fun p hp => by
    rcases List.mem_singleton.mp hp with rfl
    exact lkN), (fun p hp => by
    rcases List.mem_singleton.mp hp with rfl
    exact PySem.W.codeHd_of_K X lkH), (fun s v => .of_eq rfl), (fun H a ns hl _ hT hS => ?_), fun base hKb hGb hTB => ?_⟩
  · have hP0 := hT (cL, PT) (List.mem_singleton.mpr rfl)
    have hN : ¬ a = PT ∨ KL K a (ns.map V.int) := hS.elim (fun z => .inl fun hb => by
      rw [hb] at z
      rcases z with z | ⟨o, z⟩
      · rw [hP0] at z; cases z
      · rw [hP0] at z; cases z) .inr
    have hR : R K mg (fun b => b = PT) H (.ref a) (.scr ns) := by
      unfold R
      refine ⟨a, rfl, ?_⟩
      rcases hS with z | z
      · rcases hN with n | n
        · exact .inl ⟨n, z⟩
        · exact .inr n
      · exact .inr z
    refine ⟨fun b => b = PT, ns, hl, fun b hb z => ?_, .cons hR .nil, fun p hp => ?_, by simp, fun v H' _ _ _ r => by simpa [R] using r⟩
    · have hb' : b = PT := hb
      rw [hb', hP0] at z; cases z
    · rcases List.mem_singleton.mp hp with rfl
      exact ⟨rfl, tab0 hP0⟩
  have TB := hTB (cL, PT) (List.mem_singleton.mpr rfl)
  have T : FmT w K mg C := ⟨mC, clC, ciC, (by unfold PySem.W.kitOne; rw [if_pos (by simp)]), (by
    intro n hn
    simp only [fnames, List.mem_cons, List.not_mem_nil, or_false] at hn
    rcases hn with rfl | rfl | rfl | rfl | rfl | rfl | rfl
    · exact nC_own_word
    · exact nC_own_parts
    · exact nC_own_text
    · exact nC_own_size
    · exact nC_own_nested
    · exact nC_own_depth
    · exact nC_own_letters
    ), ⟨_, PySem.W.mg_of X G al, ⟨tal, rfl⟩⟩, ⟨pa, PySem.W.mg_of X G aS, fun o => by
      cases o with
      | an => exact ⟨es, ne, _, lS, kS, vA, ⟨ta, rfl⟩⟩
      | orr => exact ⟨es, ne, _, lS, kS, vO, ⟨to, rfl⟩⟩
      | im => exact ⟨es, ne, _, lS, kS, vI, ⟨ti, rfl⟩⟩⟩⟩
  have D_draw : DrawD l.prog w K mg base 3 := ok_draw F_draw (PySem.W.mg_of X G a_draw) b_draw B
  have D_one : OneD l.prog w K mg base 4 := ok_one F_one (PySem.W.mg_of X G a_one) b_one B D_draw
  have D_signs : SignsD l.prog w K mg base 5 := ok_signs F_signs (PySem.W.mg_of X G a_signs) b_signs B D_draw D_one
  have D_leaf : LeafD l.prog w K mg base 5 := ok_leaf F_leaf (PySem.W.mg_of X G a_leaf) b_leaf B D_draw D_one
  have D_isLet : IsLetD l.prog w K mg base 2 := ok_isLet F_isLet (PySem.W.mg_of X G a_isLet) b_isLet B T
  have D_letIn : LetInD l.prog w K mg base 2 := ok_letIn F_letIn (PySem.W.mg_of X G a_letIn) b_letIn B T
  have D_isForm : IsFormD l.prog w K mg base 3 := ok_isForm F_isForm (PySem.W.mg_of X G a_isForm) b_isForm B T D_isLet
  have D_pword := ok_word (P := l.prog) (w := w) (base := base) F_pword ⟨C, p_pword, mC, clC, a_pword, g_pword, t_pword, r_pword, q_pword⟩ b_pword T
  have D_pletters := ok_letters (P := l.prog) (w := w) (base := base) F_pletters ⟨C, p_pletters, mC, clC, a_pletters, g_pletters, t_pletters, r_pletters, q_pletters⟩ b_pletters T
  have D_psize := ok_size (P := l.prog) (w := w) (base := base) F_psize ⟨C, p_psize, mC, clC, a_psize, g_psize, t_psize, r_psize, q_psize⟩ b_psize T
  have D_pnested := ok_nested (P := l.prog) (w := w) (base := base) F_pnested ⟨C, p_pnested, mC, clC, a_pnested, g_pnested, t_pnested, r_pnested, q_pnested⟩ b_pnested T
  have D_pdepth := ok_depth (P := l.prog) (w := w) (base := base) F_pdepth ⟨C, p_pdepth, mC, clC, a_pdepth, g_pdepth, t_pdepth, r_pdepth, q_pdepth⟩ b_pdepth T
  have D_text := ok_text (P := l.prog) (w := w) (base := base) F_text ⟨C, mC, clC, a_text, i_text, k_text⟩ b_text T
  have D_textIn : TextInD l.prog w K mg base 4 := ok_textIn F_textIn (PySem.W.mg_of X G a_textIn) b_textIn B T (D_pword.up' (by decide)) (D_text.up' (by decide))
  have MK : MkF l.prog w K mg base 5 := ok_init F_init ⟨C, mC, Cmk, a_init, i_init, Ckc⟩ B T D_isForm D_textIn D_letIn D_pletters D_psize D_pnested D_pdepth
  have D_eq : EqD l.prog w K mg base 2 := ok_eq F_eq ⟨C, mC, a_eq, i_eq⟩ b_eq B T
  have NF : NoFm K C := fun t ht => by
    simp only [kinds7, List.mem_cons, List.not_mem_nil, or_false] at ht
    rcases ht with rfl | rfl | rfl | rfl | rfl | rfl | rfl
    · exact noC_NoneType
    · exact noC_bool
    · exact noC_int
    · exact noC_str
    · exact noC_list
    · exact noC_tuple
    · exact noC_dict
  have D_need : NeedD l.prog w K mg base 1 := ok_need F_need (PySem.W.mg_of X G a_need) b_need B T
  have D_neg : NegD l.prog w K mg base 7 := ok_neg F_neg ⟨C, mC, a_neg, i_neg⟩ b_neg MK
  have D_and : BinD' l.prog w K mg base "__and__" .an 7 := ok_and F_and ⟨C, mC, a_and, i_and⟩ b_and MK D_need
  have D_or : BinD' l.prog w K mg base "__or__" .orr 7 := ok_or F_or ⟨C, mC, a_or, i_or⟩ b_or MK D_need
  have D_shr : BinD' l.prog w K mg base "__rshift__" .im 7 := ok_shr F_shr ⟨C, mC, a_shr, i_shr⟩ b_shr MK D_need
  have XT : Ox.Err0 l.prog w K mg "InvalidText" "InvalidText" XT_ := err_InvalidText mXT_ S_xt I_xt
  have RT : RdT w K mg CR := ⟨mCR, clCR, (by
    intro n hn
    simp only [rn, List.mem_cons, List.not_mem_nil, or_false] at hn
    rcases hn with rfl | rfl
    · exact nCR_source
    · exact nCR_at)⟩
  have SFQ : ∀ C', mg "Formula" = some (.ref C') → PySem.W.selfFirst K C' = true := fun C' h => by
    rw [mC] at h
    cases h
    exact sfq
  have RK : RdKit l.prog w K mg base := {
    isLet := D_isLet
    letter := ok_letter F_sletter ⟨C, _, mC, crC, p_sletter, a_sletter, r_sletter, q_sletter⟩ b_sletter D_isLet MK
    tru := ok_true F_strue ⟨C, _, mC, crC, p_strue, a_strue, r_strue, q_strue⟩ b_strue MK
    fal := ok_false F_sfalse ⟨C, _, mC, crC, p_sfalse, a_sfalse, r_sfalse, q_sfalse⟩ b_sfalse MK
    neg := D_neg
    and := D_and
    or := D_or
    shr := D_shr
    sf := SFQ
    skipO := ok_skipO F_rskip ⟨CR, mCR, clCR, a_rskip, i_rskip, k_rskip⟩ b_rskip B RT
    skipX := ok_skipX F_rskip ⟨CR, mCR, clCR, a_rskip, i_rskip, k_rskip⟩ b_rskip B RT XT
    sign := ok_sign F_rsign ⟨CR, mCR, clCR, a_rsign, i_rsign, k_rsign⟩ b_rsign B RT
    xt := ⟨_, XT⟩ }
  have MR : MkR l.prog w K mg base 1 := ok_rinit F_rinit ⟨CR, mCR, CRmk, a_rinit, i_rinit, CRkc⟩ b_rinit RT
  have RF : RForm l.prog w K mg base 60 129 := (all_read F_rform ⟨CR, mCR, clCR, a_rform, i_rform, k_rform⟩ b_rform F_rpair ⟨CR, mCR, clCR, a_rpair, i_rpair, k_rpair⟩ b_rpair RT RK 60).1
  have RX : ReadX l.prog w K mg base 131 := ok_readX F_readF (PySem.W.mg_of X G a_readF) b_readF B RT MR RF D_text ⟨_, _, mC, crC, ⟨most, ⟨_, rfl⟩⟩⟩ XT
  have RN : ReadN l.prog w K mg base 3 := ok_readN F_readF (PySem.W.mg_of X G a_readF) b_readF B XT
  have FD : FieldOk l.prog w K mg base 1 := ok_field F_field (PySem.W.mg_of X G a_field) b_field
  have TR : TryOk l.prog w K mg base 5 7 := ok_try F_try (PySem.W.mg_of X G a_try) b_try ⟨⟨_, mC1⟩, ⟨_, mC2⟩, ⟨_, mC3⟩⟩ FD
  have hd : mg "dict" = none := PySem.W.mg_none_of X G z_dict
  have hmin : mg "min" = none := PySem.W.mg_none_of X G z_min
  have XF : Ox.Err1 l.prog w K mg "InvalidFilling" "InvalidFilling" "key" XF_ := err_InvalidFilling mXF_ S_xf I_xf Emxf
  have D_parts := ok_parts (P := l.prog) (w := w) (base := base) F_parts ⟨C, mC, clC, a_parts, i_parts, k_parts⟩ b_parts B T
  have D_inner : InnerD l.prog w K mg base 2 := ok_inner F_inner (PySem.W.mg_of X G a_inner) b_inner B
  have D_mixed : MixedD l.prog w K mg base 4 := ok_mixed F_mixed (PySem.W.mg_of X G a_mixed) b_mixed B D_draw
  have D_made := ok_made (P := l.prog) (w := w) (base := base) F_made (PySem.W.mg_of X G a_made) b_made MK
  have D_form := ok_form (P := l.prog) (w := w) (base := base) F_form (PySem.W.mg_of X G a_form) b_form B D_draw D_leaf
  have D_chk : ChkD l.prog w K mg base 3 := ok_chk F_chk (PySem.W.mg_of X G a_chk) b_chk B T D_isLet
  have D_with := ok_with (P := l.prog) (w := w) (base := base) F_with (PySem.W.mg_of X G a_with) b_with T MK D_pword D_text D_parts
  exact ok_law l_law c_law TB {
    B := B
    hd := hd
    hmin := hmin
    cells := ok_cells F_cells (PySem.W.mg_of X G a_cells) b_cells B
    draw := D_draw
    one := D_one
    signs := D_signs
    form := D_form
    text := ok_ltext F_ltext (PySem.W.mg_of X G a_ltext) b_ltext
    lsize := ok_lsize F_lsize (PySem.W.mg_of X G a_lsize) b_lsize B D_inner
    made := D_made
    madeAll := fun n => (ok_madeAll F_madeAll (PySem.W.mg_of X G a_madeAll) b_madeAll hd (D_made n)).up' (by omega)
    filling := fun n => (ok_filling F_filling (PySem.W.mg_of X G a_filling) b_filling B D_draw D_mixed (by omega) (D_form n)).up' (by omega)
    put := ok_put F_put (PySem.W.mg_of X G a_put) b_put B D_inner
    same := ok_sameF F_same (PySem.W.mg_of X G a_same) b_same B T ⟨sfC_list, sfC_tuple, sfC_bool, sfC_int, sfC_str, nf⟩ D_eq
    filled := fun n => (ok_filled F_filled ⟨C, mC, clC, a_filled, i_filled, k_filled⟩ b_filled D_chk (by omega) (D_with n)).up' (by omega)
    filledK := fun n => (show 7 + n + 1 = 8 + n by omega) ▸ ok_filledK F_filled ⟨C, mC, clC, a_filled, i_filled, k_filled⟩ ⟨fun s us ws _ hl => match us, ws, hl with | [_], [_], _ => .of_eq rfl, fun r1 r2 => kg_rel r1 r2⟩ D_chk (by omega) (D_with n)
    filledX := ok_filledX F_filled ⟨C, mC, clC, a_filled, i_filled, k_filled⟩ b_filled (ok_chkX F_chk (PySem.W.mg_of X G a_chk) b_chk B T D_isLet NF XF)
    fsize := ok_fsize F_fsize (PySem.W.mg_of X G a_fsize) b_fsize B D_pword D_text D_parts D_psize
    ptext := D_text
    readX := RX
    eq := D_eq
    nf := fun C' h => by
      rw [mC] at h
      cases h
      exact nf
    try' := TR
    caught := fun m => caught1' mXF_ mC1 mC2 mC3 Elxf ⟨Eixf, Ejxf, E7xf, Ekxf⟩ E3xf Emxf (by decide +kernel) (by decide +kernel) (.str m) }
theorem walkL {l : PySem.W.OpenLaw} {q : Program} {loose : List Str} {XP : (Str → Option Value) → Heap → Prop} {YP : World → Heap → Prop} {d : DefRec} {K : Params → PySem.W.Frag} (hn : l.most = some 63) (hdf : d.params.defaults = []) (hrec : ((recsOf q).any fun e => e.name == d.name) = true)
    (hY : ∀ (w : World) (h : Heap), YP w h → (K w.params).In h)
    (F : ∀ (w : World) (mg : Str → Option Value) (fa : Addr) (h : Heap), (K w.params).In h → h.Ns mainGlobals mg → mg d.name = some (.ref fa) → OwnTab (K w.params) fa h → LawAtS l w (K w.params) (L2.CX l.prog w) 151 63 "_law_script" mg fa h) :
    PySem.W.WalkO q loose XP YP l.row.toRowW d [] (fun f vs => PySem.call f vs) :=
  walk_ofOwn (CX := fun w => L2.CX l.prog w) hn (by decide) hdf ⟨rfl, by decide, by decide⟩ hrec hY (fun w mg fa h _ KX G hm own => F w mg fa h KX G hm own) fun w H s e s' z => cx_no z
end Od

open PySem PySem.W PyProof.Rows
set_option maxRecDepth 100000 in
set_option maxHeartbeats 0 in
theorem PySem.Challenge.cw_oneroot_k09_formulas_filled_holds : PySem.Challenge.rw_oneroot_k09_formulas_filled.Holds := by
  w_on; o_law; k_head; (case hw => w_witness2)
  k_fill
  refine Od.walkL (l := PySem.Challenge.rw_oneroot_k09_formulas_filled) rfl rfl (by decide +kernel) (fun w h Y => PySem.W.km_in_of Y) ?F
  case F =>
    intro w mg fa h KX G hmg own
    refine' Od.all_mk KX G hmg own ?a_isLet ?l_isLet ?c_isLet ?k_isLet ?a_letIn ?l_letIn ?c_letIn ?k_letIn ?a_isForm ?l_isForm ?c_isForm ?k_isForm ?a_textIn ?l_textIn ?c_textIn ?k_textIn ?a_need ?l_need ?c_need ?k_need ?a_chk ?l_chk ?c_chk ?k_chk ?a_with ?l_with ?c_with ?k_with ?a_fsize ?l_fsize ?c_fsize ?k_fsize ?a_readF ?l_readF ?c_readF ?k_readF ?a_cells ?l_cells ?c_cells ?k_cells ?a_draw ?l_draw ?c_draw ?k_draw ?a_one ?l_one ?c_one ?k_one ?a_same ?l_same ?c_same ?k_same ?a_mixed ?l_mixed ?c_mixed ?k_mixed ?a_signs ?l_signs ?c_signs ?k_signs ?a_leaf ?l_leaf ?c_leaf ?k_leaf ?a_form ?l_form ?c_form ?k_form ?a_inner ?l_inner ?c_inner ?k_inner ?a_ltext ?l_ltext ?c_ltext ?k_ltext ?a_made ?l_made ?c_made ?k_made ?a_lsize ?l_lsize ?c_lsize ?k_lsize ?a_put ?l_put ?c_put ?k_put ?a_madeAll ?l_madeAll ?c_madeAll ?k_madeAll ?a_filling ?l_filling ?c_filling ?k_filling ?a_field ?l_field ?c_field ?k_field ?a_try ?l_try ?c_try ?k_try ?a_law ?l_law ?c_law ?k_law ?lkC ?lkP ?lkN ?lkH ?aC ?aC1 ?aC2 ?aC3 ?aXT_ ?aXF_ ?aCR ?a_init ?i_init ?l_init ?c_init ?k_init ?a_text ?i_text ?l_text ?c_text ?k_text ?a_parts ?i_parts ?l_parts ?c_parts ?k_parts ?a_eq ?i_eq ?l_eq ?c_eq ?k_eq ?a_neg ?i_neg ?l_neg ?c_neg ?k_neg ?a_and ?i_and ?l_and ?c_and ?k_and ?a_or ?i_or ?l_or ?c_or ?k_or ?a_shr ?i_shr ?l_shr ?c_shr ?k_shr ?a_filled ?i_filled ?l_filled ?c_filled ?k_filled ?a_rinit ?i_rinit ?l_rinit ?c_rinit ?k_rinit ?a_rskip ?i_rskip ?l_rskip ?c_rskip ?k_rskip ?a_rsign ?i_rsign ?l_rsign ?c_rsign ?k_rsign ?a_rform ?i_rform ?l_rform ?c_rform ?k_rform ?a_rpair ?i_rpair ?l_rpair ?c_rpair ?k_rpair ?a_pword ?g_pword ?t_pword ?q_pword ?l_pword ?c_pword ?k_pword ?a_pletters ?g_pletters ?t_pletters ?q_pletters ?l_pletters ?c_pletters ?k_pletters ?a_psize ?g_psize ?t_psize ?q_psize ?l_psize ?c_psize ?k_psize ?a_pnested ?g_pnested ?t_pnested ?q_pnested ?l_pnested ?c_pnested ?k_pnested ?a_pdepth ?g_pdepth ?t_pdepth ?q_pdepth ?l_pdepth ?c_pdepth ?k_pdepth ?a_strue ?q_strue ?l_strue ?c_strue ?k_strue ?a_sfalse ?q_sfalse ?l_sfalse ?c_sfalse ?k_sfalse ?a_sletter ?q_sletter ?l_sletter ?c_sletter ?k_sletter ?Cpg ?Chd ?Cpo ?Csa ?Cmk ?Ckc ?Cca ?Ccm ?Crd ?Cga ?CRpg ?CRhd ?CRpo ?CRsa ?CRmk ?CRkc ?CRca ?CRcm ?CRrd ?CRga ?cn ?ct ?nC_own_word ?nC_own_parts ?nC_own_text ?nC_own_size ?nC_own_nested ?nC_own_depth ?nC_own_letters ?nCR_source ?nCR_at ?E0xt ?E1xt ?E2xt ?E3xt ?E4xt ?E5xt ?E6xt ?E7xt ?E8xt ?E9xt ?Eaxt ?Ebxt ?Ecxt ?Edxt ?Eext ?Efxt ?Egxt ?Ehxt ?Eixt ?Ejxt ?Ekxt ?Elxt ?E0xf ?E1xf ?E2xf ?E3xf ?E4xf ?E5xf ?E6xf ?E7xf ?E8xf ?E9xf ?Eaxf ?Ebxf ?Ecxf ?Edxf ?Eexf ?Efxf ?Egxf ?Ehxf ?Eixf ?Ejxf ?Ekxf ?Elxf ?Emxf ?Es1 ?Es2 ?Es3 ?nf ?most ?sfq ?al ?aS ?lS ?kS ?vA ?vO ?vI ?sfC_list ?sfC_tuple ?sfC_bool ?sfC_int ?sfC_str ?noC_NoneType ?noC_bool ?noC_int ?noC_str ?noC_list ?noC_tuple ?noC_dict ?z_len ?z_int ?z_list ?z_sorted ?z_range ?z_isinstance ?z_all ?z_any ?z_zip ?z_sum ?z_max ?z_str ?z_bool ?z_tuple ?z_set ?z_dict ?z_min
    (case a_isLet => k_is); (case l_isLet => k_is); (case c_isLet => k_is); (case k_isLet => k_is); (case a_letIn => k_is); (case l_letIn => k_is)
    (case c_letIn => k_is); (case k_letIn => k_is); (case a_isForm => k_is); (case l_isForm => k_is); (case c_isForm => k_is); (case k_isForm => k_is)
    (case a_textIn => k_is); (case l_textIn => k_is); (case c_textIn => k_is); (case k_textIn => k_is); (case a_need => k_is); (case l_need => k_is)
    (case c_need => k_is); (case k_need => k_is); (case a_chk => k_is); (case l_chk => k_is); (case c_chk => k_is); (case k_chk => k_is)
    (case a_with => k_is); (case l_with => k_is); (case c_with => k_is); (case k_with => k_is); (case a_fsize => k_is); (case l_fsize => k_is)
    (case c_fsize => k_is); (case k_fsize => k_is); (case a_readF => k_is); (case l_readF => k_is); (case c_readF => k_is); (case k_readF => k_is)
    (case a_cells => k_is); (case l_cells => k_is); (case c_cells => k_is); (case k_cells => k_is); (case a_draw => k_is); (case l_draw => k_is)
    (case c_draw => k_is); (case k_draw => k_is); (case a_one => k_is); (case l_one => k_is); (case c_one => k_is); (case k_one => k_is)
    (case a_same => k_is); (case l_same => k_is); (case c_same => k_is); (case k_same => k_is); (case a_mixed => k_is); (case l_mixed => k_is)
    (case c_mixed => k_is); (case k_mixed => k_is); (case a_signs => k_is); (case l_signs => k_is); (case c_signs => k_is); (case k_signs => k_is)
    (case a_leaf => k_is); (case l_leaf => k_is); (case c_leaf => k_is); (case k_leaf => k_is); (case a_form => k_is); (case l_form => k_is)
    (case c_form => k_is); (case k_form => k_is); (case a_inner => k_is); (case l_inner => k_is); (case c_inner => k_is); (case k_inner => k_is)
    (case a_ltext => k_is); (case l_ltext => k_is); (case c_ltext => k_is); (case k_ltext => k_is); (case a_made => k_is); (case l_made => k_is)
    (case c_made => k_is); (case k_made => k_is); (case a_lsize => k_is); (case l_lsize => k_is); (case c_lsize => k_is); (case k_lsize => k_is)
    (case a_put => k_is); (case l_put => k_is); (case c_put => k_is); (case k_put => k_is); (case a_madeAll => k_is); (case l_madeAll => k_is)
    (case c_madeAll => k_is); (case k_madeAll => k_is); (case a_filling => k_is); (case l_filling => k_is); (case c_filling => k_is); (case k_filling => k_is)
    (case a_field => k_is); (case l_field => k_is); (case c_field => k_is); (case k_field => k_is); (case a_try => k_is); (case l_try => k_is)
    (case c_try => k_is); (case k_try => k_is); (case a_law => k_is); (case l_law => k_is); (case c_law => k_is); (case k_law => k_is)
    (case lkC => k_is); (case lkP => exact rfl); (case lkN => kernel_rfl); (case lkH => kernel_rfl); (case aC => k_is); (case aC1 => k_is)
    (case aC2 => k_is); (case aC3 => k_is); (case aXT_ => k_is); (case aXF_ => k_is); (case aCR => k_is); (case a_init => k_is)
    (case i_init => k_is); (case l_init => k_is); (case c_init => k_is); (case k_init => k_is); (case a_text => k_is); (case i_text => k_is)
    (case l_text => k_is); (case c_text => k_is); (case k_text => k_is); (case a_parts => k_is); (case i_parts => k_is); (case l_parts => k_is)
    (case c_parts => k_is); (case k_parts => k_is); (case a_eq => k_is); (case i_eq => k_is); (case l_eq => k_is); (case c_eq => k_is)
    (case k_eq => k_is); (case a_neg => k_is); (case i_neg => k_is); (case l_neg => k_is); (case c_neg => k_is); (case k_neg => k_is)
    (case a_and => k_is); (case i_and => k_is); (case l_and => k_is); (case c_and => k_is); (case k_and => k_is); (case a_or => k_is)
    (case i_or => k_is); (case l_or => k_is); (case c_or => k_is); (case k_or => k_is); (case a_shr => k_is); (case i_shr => k_is)
    (case l_shr => k_is); (case c_shr => k_is); (case k_shr => k_is); (case a_filled => k_is); (case i_filled => k_is); (case l_filled => k_is)
    (case c_filled => k_is); (case k_filled => k_is); (case a_rinit => k_is); (case i_rinit => k_is); (case l_rinit => k_is); (case c_rinit => k_is)
    (case k_rinit => k_is); (case a_rskip => k_is); (case i_rskip => k_is); (case l_rskip => k_is); (case c_rskip => k_is); (case k_rskip => k_is)
    (case a_rsign => k_is); (case i_rsign => k_is); (case l_rsign => k_is); (case c_rsign => k_is); (case k_rsign => k_is); (case a_rform => k_is)
    (case i_rform => k_is); (case l_rform => k_is); (case c_rform => k_is); (case k_rform => k_is); (case a_rpair => k_is); (case i_rpair => k_is)
    (case l_rpair => k_is); (case c_rpair => k_is); (case k_rpair => k_is); (case a_pword => k_is); (case g_pword => k_is); (case t_pword => k_is)
    (case q_pword => k_is); (case l_pword => k_is); (case c_pword => k_is); (case k_pword => k_is); (case a_pletters => k_is); (case g_pletters => k_is)
    (case t_pletters => k_is); (case q_pletters => k_is); (case l_pletters => k_is); (case c_pletters => k_is); (case k_pletters => k_is); (case a_psize => k_is)
    (case g_psize => k_is); (case t_psize => k_is); (case q_psize => k_is); (case l_psize => k_is); (case c_psize => k_is); (case k_psize => k_is)
    (case a_pnested => k_is); (case g_pnested => k_is); (case t_pnested => k_is); (case q_pnested => k_is); (case l_pnested => k_is); (case c_pnested => k_is)
    (case k_pnested => k_is); (case a_pdepth => k_is); (case g_pdepth => k_is); (case t_pdepth => k_is); (case q_pdepth => k_is); (case l_pdepth => k_is)
    (case c_pdepth => k_is); (case k_pdepth => k_is); (case a_strue => k_is); (case q_strue => k_is); (case l_strue => k_is); (case c_strue => k_is)
    (case k_strue => k_is); (case a_sfalse => k_is); (case q_sfalse => k_is); (case l_sfalse => k_is); (case c_sfalse => k_is); (case k_sfalse => k_is)
    (case a_sletter => k_is); (case q_sletter => k_is); (case l_sletter => k_is); (case c_sletter => k_is); (case k_sletter => k_is); (case Cpg => k_is)
    (case Chd => k_is); (case Cpo => k_is); (case Csa => k_is); (case Cmk => k_is); (case Ckc => k_is); (case Cca => k_is)
    (case Ccm => k_is); (case Crd => k_is); (case Cga => k_is); (case CRpg => k_is); (case CRhd => k_is); (case CRpo => k_is)
    (case CRsa => k_is); (case CRmk => k_is); (case CRkc => k_is); (case CRca => k_is); (case CRcm => k_is); (case CRrd => k_is)
    (case CRga => k_is); (case cn => k_is); (case ct => k_is); (case nC_own_word => k_is); (case nC_own_parts => k_is); (case nC_own_text => k_is)
    (case nC_own_size => k_is); (case nC_own_nested => k_is); (case nC_own_depth => k_is); (case nC_own_letters => k_is); (case nCR_source => k_is); (case nCR_at => k_is)
    (case E0xt => k_is); (case E1xt => kernel_rfl); (case E2xt => k_is); (case E3xt => k_is); (case E4xt => k_is); (case E5xt => k_is)
    (case E6xt => k_is); (case E7xt => k_is); (case E8xt => k_is); (case E9xt => k_is); (case Eaxt => kernel_rfl); (case Ebxt => k_is)
    (case Ecxt => k_is); (case Edxt => k_is); (case Eext => exact rfl); (case Efxt => kernel_rfl); (case Egxt => k_is); (case Ehxt => k_is)
    (case Eixt => k_is); (case Ejxt => k_is); (case Ekxt => k_is); (case Elxt => kernel_rfl); (case E0xf => k_is); (case E1xf => kernel_rfl)
    (case E2xf => k_is); (case E3xf => k_is); (case E4xf => k_is); (case E5xf => k_is); (case E6xf => k_is); (case E7xf => k_is)
    (case E8xf => k_is); (case E9xf => k_is); (case Eaxf => kernel_rfl); (case Ebxf => k_is); (case Ecxf => k_is); (case Edxf => k_is)
    (case Eexf => exact rfl); (case Efxf => kernel_rfl); (case Egxf => k_is); (case Ehxf => k_is); (case Eixf => k_is); (case Ejxf => k_is)
    (case Ekxf => k_is); (case Elxf => kernel_rfl); (case Emxf => k_is); (case Es1 => k_is); (case Es2 => k_is); (case Es3 => kernel_rfl)
    (case nf => k_is); (case most => k_is); (case sfq => k_is); (case al => k_is); (case aS => k_is); (case lS => k_is)
    (case kS => k_keys); (case vA => k_is); (case vO => k_is); (case vI => k_is); (case sfC_list => kernel_rfl); (case sfC_tuple => kernel_rfl)
    (case sfC_bool => kernel_rfl); (case sfC_int => kernel_rfl); (case sfC_str => kernel_rfl); (case noC_NoneType => kernel_rfl); (case noC_bool => kernel_rfl); (case noC_int => kernel_rfl)
    (case noC_str => kernel_rfl); (case noC_list => kernel_rfl); (case noC_tuple => kernel_rfl); (case noC_dict => kernel_rfl); (case z_len => k_is); (case z_int => k_is)
    (case z_list => k_is); (case z_sorted => k_is); (case z_range => k_is); (case z_isinstance => k_is); (case z_all => k_is); (case z_any => k_is)
    (case z_zip => k_is); (case z_sum => k_is); (case z_max => k_is); (case z_str => k_is); (case z_bool => k_is); (case z_tuple => k_is)
    (case z_set => k_is); (case z_dict => k_is); (case z_min => k_is)

