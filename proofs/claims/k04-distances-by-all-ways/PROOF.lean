import PyProof.Rows.All
import Wide.All
import OpenK.AllK
import Wide.FinOn
import KE.KStateDown
import HandS.ForMost
import HandS.Defaults
import HandS.Flow
import HandS.HeadHook2
import HandS.Property
import HandS.Codes
import HandS.HeadEnd
import HandS.TupSets
import KE.SortData
import HandS.Deep
import HandS.Wide
import HandS.Zip0
import HandS.Iter
import PyProof.Draws
import PyProof.EnumMake
import HandS.TupLe
import HandS.IsInst
import HandS.TupAny
import HandS.Style
import HandS.Conv
import HandS.More
import HandS.CallRecv
import HandS.Zip
import HandS.TryOnly
import HandS.Small
import HandS.Head0
import HandS.Head1
import HandS.Head2
import HandS.HeadHook1
import HandS.Words
import PySem.Challenge.RW_quietturns_k04_distances_by_all_ways
set_option Elab.async false
set_option linter.all false
set_option maxRecDepth 100000
set_option maxHeartbeats 1000000
namespace Q
open PySem PySem.Spec PyProof.Rows L2

/-- plain data: what a value stands for -/
inductive D where
  | non | bl (b : Bool) | int (i : Int) | str (s : Str)
  | tup (xs : List D) | lst (xs : List D)
  | dK (ks : List Key) (xs : List D) | dT (ks : List (List Key)) (xs : List D)
  | obj (c : Str) (ns : List Str) (xs : List D)
  | cell (i : Nat)
  | scr (ns : List Int)
  | inst (q : Addr) (c : Str) (ns : List Str) (xs : List D)
  deriving Inhabited

def lockable : HO → Prop
  | .dK _ => True
  | .dT _ => True
  | _ => False
/-- u stands at b, or is locked there -/
def At (H : Hp) (b : Addr) (u : HO) : Prop := H b = some u ∨ (lockable u ∧ ∃ o, H b = some (.frz o u))
def Le (Hs H : Hp) : Prop := ∀ b u, Hs b = some u → At H b u
/-- a stable heap grows -/
def Sub (A B : Hp) : Prop := ∀ b u, A b = some u → B b = some u
theorem Sub.refl (A : Hp) : Sub A A := fun _ _ h => h
theorem Sub.trans {A B C : Hp} (h : Sub A B) (k : Sub B C) : Sub A C := fun b u e => k b u (h b u e)
theorem Sub.upd {A : Hp} {p : Addr} {o : HO} (h : A p = none) : Sub A (upd A p o) := fun b u e => by
  rw [upd_ne (ne_of_none e h)]; exact e
theorem At.rd {H : Hp} {b : Addr} {u : HO} (h : At H b u) : Rd H b u := by
  rcases h with h | ⟨_, o, h⟩
  · exact .inl h
  · exact .inr ⟨o, h⟩

/-- a list that is never changed: the script -/
def ScrAt (K : PySem.W.Frag) (H : Hp) (a : Addr) (xs : List V) : Prop := (∃ o, H a = some (.frz o (.lst xs))) ∨
  ∃ (o : Obj) (its : Array Value) (n : Nat), K.lookup a = some o ∧ o.cls = .type "list" ∧ o.dict = none ∧ o.data = .seq its n ∧ its.size ≤ sizeLine ∧ Vals xs its.toList
theorem ScrAt.sq {K : PySem.W.Frag} {H : Hp} {a : Addr} {xs : List V} (h : ScrAt K H a xs) : SqL K H a xs := by
  rcases h with ⟨o, h⟩ | h
  · exact .inl (.inr ⟨o, h⟩)
  · exact .inr h
mutual
def Rep (K : PySem.W.Frag) (ρ : List Addr) (H : Hp) : D → V → Prop
  | .non, v => v = .non
  | .bl b, v => v = .bl b
  | .int i, v => v = .int i
  | .str s, v => v = .str s
  | .tup xs, v => ∃ a vs, v = .ref a ∧ H a = some (.tup vs) ∧ RepL K ρ H xs vs
  | .lst xs, v => ∃ a vs, v = .ref a ∧ H a = some (.lst vs) ∧ RepL K ρ H xs vs
  | .dK ks xs, v => ∃ a vs, v = .ref a ∧ ks.length = xs.length ∧ At H a (.dK (ks.zip vs)) ∧ RepL K ρ H xs vs
  | .dT ks xs, v => ∃ a vs, v = .ref a ∧ ks.length = xs.length ∧ At H a (.dT (ks.zip vs)) ∧ RepL K ρ H xs vs
  | .obj c ns xs, v => ∃ a dx vs, v = .ref a ∧ ns.length = xs.length ∧ H a = some (.ins (He.ga K c) dx (ns.zip vs)) ∧ RepL K ρ H xs vs
  | .cell i, v => ∃ a, ρ[i]? = some a ∧ v = .ref a
  | .scr ns, v => ∃ a, v = .ref a ∧ ScrAt K H a (ns.map V.int)
  | .inst q c ns xs, v => ∃ a vs, v = .ref a ∧ ns.length = xs.length ∧ H a = some (.ins (He.ga K c) q (ns.zip vs)) ∧ RepL K ρ H xs vs
def RepL (K : PySem.W.Frag) (ρ : List Addr) (H : Hp) : List D → List V → Prop
  | [], vs => vs = []
  | d :: ds, vs => ∃ v r, vs = v :: r ∧ Rep K ρ H d v ∧ RepL K ρ H ds r
end

section
variable {K : PySem.W.Frag} {ρ ρ' : List Addr} {H H' : Hp}
theorem RepL.nil : RepL K ρ H [] [] := by unfold RepL; rfl
theorem RepL.cons {d : D} {ds : List D} {v : V} {vs : List V} (h : Rep K ρ H d v) (k : RepL K ρ H ds vs) : RepL K ρ H (d :: ds) (v :: vs) := by
  unfold RepL; exact ⟨v, vs, rfl, h, k⟩
theorem RepL.nil_iff {vs : List V} : RepL K ρ H [] vs ↔ vs = [] := by unfold RepL; rfl
theorem RepL.cons_iff {d : D} {ds : List D} {vs : List V} : RepL K ρ H (d :: ds) vs ↔ ∃ v r, vs = v :: r ∧ Rep K ρ H d v ∧ RepL K ρ H ds r := by
  conv => lhs; unfold RepL
theorem RepL.length : ∀ {ds : List D} {vs : List V}, RepL K ρ H ds vs → ds.length = vs.length
  | [], vs, h => by rw [RepL.nil_iff] at h; subst h; rfl
  | d :: ds, vs, h => by
    obtain ⟨v, r, rfl, _, k⟩ := RepL.cons_iff.mp h
    rw [List.length_cons, List.length_cons, RepL.length k]
theorem RepL.get : ∀ {ds : List D} {vs : List V} {i : Nat} {d : D}, RepL K ρ H ds vs → ds[i]? = some d → ∃ v, vs[i]? = some v ∧ Rep K ρ H d v
  | [], vs, i, d, h, e => by simp at e
  | x :: ds, vs, i, d, h, e => by
    obtain ⟨v, r, rfl, hx, k⟩ := RepL.cons_iff.mp h
    cases i with
    | zero => simp at e; subst e; exact ⟨v, rfl, hx⟩
    | succ i => simp at e; obtain ⟨w, e1, e2⟩ := RepL.get k e; exact ⟨w, by simpa using e1, e2⟩
theorem RepL.append : ∀ {ds es : List D} {vs us : List V}, RepL K ρ H ds vs → RepL K ρ H es us → RepL K ρ H (ds ++ es) (vs ++ us)
  | [], es, vs, us, h, k => by rw [RepL.nil_iff] at h; subst h; exact k
  | d :: ds, es, vs, us, h, k => by
    obtain ⟨v, r, rfl, hx, q⟩ := RepL.cons_iff.mp h
    exact .cons hx (RepL.append q k)
theorem RepL.take : ∀ {ds : List D} {vs : List V} (n : Nat), RepL K ρ H ds vs → RepL K ρ H (ds.take n) (vs.take n)
  | _, _, 0, _ => by simpa using RepL.nil
  | [], vs, n + 1, h => by rw [RepL.nil_iff] at h; subst h; exact .nil
  | d :: ds, vs, n + 1, h => by
    obtain ⟨v, r, rfl, hx, q⟩ := RepL.cons_iff.mp h
    exact .cons hx (RepL.take n q)
theorem RepL.drop : ∀ {ds : List D} {vs : List V} (n : Nat), RepL K ρ H ds vs → RepL K ρ H (ds.drop n) (vs.drop n)
  | _, _, 0, h => h
  | [], vs, n + 1, h => by rw [RepL.nil_iff] at h; subst h; exact .nil
  | d :: ds, vs, n + 1, h => by
    obtain ⟨v, r, rfl, hx, q⟩ := RepL.cons_iff.mp h
    exact RepL.drop n q
theorem RepL.set {x : D} {v : V} (hx : Rep K ρ H x v) : ∀ {ds : List D} {vs : List V} (n : Nat), RepL K ρ H ds vs → RepL K ρ H (ds.set n x) (vs.set n v)
  | [], vs, n, h => by rw [RepL.nil_iff] at h; subst h; exact .nil
  | d :: ds, vs, 0, h => by
    obtain ⟨w, r, rfl, _, q⟩ := RepL.cons_iff.mp h
    exact .cons hx q
  | d :: ds, vs, n + 1, h => by
    obtain ⟨w, r, rfl, h1, q⟩ := RepL.cons_iff.mp h
    exact .cons h1 (RepL.set hx n q)
theorem RepL.reverse : ∀ {ds : List D} {vs : List V}, RepL K ρ H ds vs → RepL K ρ H ds.reverse vs.reverse
  | [], vs, h => by rw [RepL.nil_iff] at h; subst h; exact .nil
  | d :: ds, vs, h => by
    obtain ⟨v, r, rfl, hx, q⟩ := RepL.cons_iff.mp h
    rw [List.reverse_cons, List.reverse_cons]
    exact (RepL.reverse q).append (.cons hx .nil)
/-- all that is read in one heap is read in the other -/
def Obs (A B : Hp) : Prop := ∀ b u, (∀ o w, u = .frz o w → ¬ lockable w) → At A b u → At B b u
theorem At.of {A : Hp} {b : Addr} {u : HO} (h : A b = some u) : At A b u := .inl h
theorem At.plain {A : Hp} {b : Addr} {u : HO} (h : At A b u) (n : ¬ lockable u) : A b = some u := by
  rcases h with h | ⟨q, _⟩
  · exact h
  · exact absurd q n
theorem Sub.at {A B : Hp} (h : Sub A B) {b : Addr} {u : HO} (q : At A b u) : At B b u := by
  rcases q with q | ⟨l, o, q⟩
  · exact .inl (h _ _ q)
  · exact .inr ⟨l, o, h _ _ q⟩
theorem Sub.obs {A B : Hp} (h : Sub A B) : Obs A B := fun b u _ q => h.at q
theorem Obs.plain {A B : Hp} (h : Obs A B) {b : Addr} {u : HO} (n : ¬ lockable u) (n2 : ∀ o w, u = .frz o w → ¬ lockable w) (q : A b = some u) : B b = some u := (h b u n2 (.inl q)).plain n
mutual
theorem Rep.obs (hr : ρ <+: ρ') (hs : Obs H H') : ∀ (d : D) (v : V), Rep K ρ H d v → Rep K ρ' H' d v
  | .non, v, h => by unfold Rep at h ⊢; exact h
  | .bl b, v, h => by unfold Rep at h ⊢; exact h
  | .int i, v, h => by unfold Rep at h ⊢; exact h
  | .str s, v, h => by unfold Rep at h ⊢; exact h
  | .tup xs, v, h => by
    unfold Rep at h ⊢; obtain ⟨a, vs, e, e1, k⟩ := h
    exact ⟨a, vs, e, hs.plain id (by intro _ _ z; cases z) e1, RepL.obs hr hs xs vs k⟩
  | .lst xs, v, h => by
    unfold Rep at h ⊢; obtain ⟨a, vs, e, e1, k⟩ := h
    exact ⟨a, vs, e, hs.plain id (by intro _ _ z; cases z) e1, RepL.obs hr hs xs vs k⟩
  | .dK ks xs, v, h => by
    unfold Rep at h ⊢; obtain ⟨a, vs, e, e0, e1, k⟩ := h
    exact ⟨a, vs, e, e0, hs _ _ (by intro _ _ z; cases z) e1, RepL.obs hr hs xs vs k⟩
  | .dT ks xs, v, h => by
    unfold Rep at h ⊢; obtain ⟨a, vs, e, e0, e1, k⟩ := h
    exact ⟨a, vs, e, e0, hs _ _ (by intro _ _ z; cases z) e1, RepL.obs hr hs xs vs k⟩
  | .obj c ns xs, v, h => by
    unfold Rep at h ⊢; obtain ⟨a, dx, vs, e, e0, e1, k⟩ := h
    exact ⟨a, dx, vs, e, e0, hs.plain id (by intro _ _ z; cases z) e1, RepL.obs hr hs xs vs k⟩
  | .inst q c ns xs, v, h => by
    unfold Rep at h ⊢; obtain ⟨a, vs, e, e0, e1, k⟩ := h
    exact ⟨a, vs, e, e0, hs.plain id (by intro _ _ z; cases z) e1, RepL.obs hr hs xs vs k⟩
  | .cell i, v, h => by
    unfold Rep at h ⊢; obtain ⟨a, e1, e2⟩ := h
    refine ⟨a, ?_, e2⟩
    obtain ⟨t, rfl⟩ := hr
    rw [List.getElem?_append_left (List.getElem?_eq_some_iff.mp e1).1]; exact e1
  | .scr ns, v, h => by
    unfold Rep at h ⊢; obtain ⟨a, e, e1⟩ := h
    refine ⟨a, e, ?_⟩
    rcases e1 with ⟨o, e1⟩ | e1
    · exact .inl ⟨o, hs.plain id (by intro _ _ z; cases z; exact id) e1⟩
    · exact .inr e1
theorem RepL.obs (hr : ρ <+: ρ') (hs : Obs H H') : ∀ (ds : List D) (vs : List V), RepL K ρ H ds vs → RepL K ρ' H' ds vs
  | [], vs, h => by rw [RepL.nil_iff] at h ⊢; exact h
  | d :: ds, vs, h => by
    obtain ⟨v, r, e, hx, k⟩ := RepL.cons_iff.mp h
    exact RepL.cons_iff.mpr ⟨v, r, e, Rep.obs hr hs d v hx, RepL.obs hr hs ds r k⟩
end
theorem Rep.mono (hr : ρ <+: ρ') (hs : Sub H H') (d : D) (v : V) (h : Rep K ρ H d v) : Rep K ρ' H' d v := Rep.obs hr hs.obs d v h
theorem RepL.mono (hr : ρ <+: ρ') (hs : Sub H H') (d : List D) (v : List V) (h : RepL K ρ H d v) : RepL K ρ' H' d v := RepL.obs hr hs.obs d v h
end
end Q

set_option Elab.async false
set_option linter.all false
set_option maxRecDepth 100000
set_option maxHeartbeats 1000000
namespace Q
open PySem PySem.Spec PyProof.Rows L2

abbrev Store := List (List Int)
structure Glob (K : PySem.W.Frag) (F0 : Hp) (ρ : List Addr) (Hs : Hp) (st : Store) (H : Hp) : Prop where
  le : Sub Hs H
  foe : ∀ b o, F0 b = some o → H b = some o ∧ Hs b = none ∧ b ∉ ρ ∧ ∀ xs, o ≠ .tup xs
  nd : ρ.Nodup
  len : ρ.length = st.length
  cell : ∀ (i : Nat) (c : List Int), st[i]? = some c → ∃ a, ρ[i]? = some a ∧ H a = some (.lst (c.map V.int)) ∧ Hs a = none
structure Ext (ρ : List Addr) (Hs : Hp) (ρ' : List Addr) (Hs' : Hp) : Prop where
  pre : ρ <+: ρ'
  sub : Sub Hs Hs'
theorem Ext.refl (ρ : List Addr) (Hs : Hp) : Ext ρ Hs ρ Hs := ⟨List.prefix_refl _, Sub.refl _⟩
theorem Ext.trans {ρ ρ1 ρ2 : List Addr} {A B C : Hp} (h : Ext ρ A ρ1 B) (k : Ext ρ1 B ρ2 C) : Ext ρ A ρ2 C := ⟨h.pre.trans k.pre, h.sub.trans k.sub⟩
theorem Ext.upd {ρ : List Addr} {Hs : Hp} {p : Addr} {o : HO} (h : Hs p = none) : Ext ρ Hs ρ (upd Hs p o) := ⟨List.prefix_refl _, Sub.upd h⟩
theorem Ext.rep {K : PySem.W.Frag} {ρ ρ1 : List Addr} {A B : Hp} {d : D} {v : V} (h : Ext ρ A ρ1 B) (r : Rep K ρ A d v) : Rep K ρ1 B d v := Rep.mono h.pre h.sub d v r
theorem Ext.repL {K : PySem.W.Frag} {ρ ρ1 : List Addr} {A B : Hp} {d : List D} {v : List V} (h : Ext ρ A ρ1 B) (r : RepL K ρ A d v) : RepL K ρ1 B d v := RepL.mono h.pre h.sub d v r
section
variable {K : PySem.W.Frag} {F0 Hs H : Hp} {ρ : List Addr} {st : Store} {p : Addr} {o : HO}
theorem Glob.fresh (g : Glob K F0 ρ Hs st H) (hp : H p = none) : Hs p = none := by
  cases e : Hs p with
  | none => rfl
  | some u => rw [g.le p u e] at hp; cases hp
/-- a new object that nobody else may have -/
theorem Glob.own (g : Glob K F0 ρ Hs st H) (hp : H p = none) : Glob K F0 ρ Hs st (upd H p o) where
  le := fun b u e => by rw [upd_ne (ne_of_none (g.le b u e) hp)]; exact g.le b u e
  foe := fun b u e => by
    obtain ⟨h1, h2, h3⟩ := g.foe b u e
    exact ⟨by rw [upd_ne (ne_of_none h1 hp)]; exact h1, h2, h3⟩
  nd := g.nd
  len := g.len
  cell := fun i c e => by
    obtain ⟨a, h1, h2, h3⟩ := g.cell i c e
    exact ⟨a, h1, by rw [upd_ne (ne_of_none h2 hp)]; exact h2, h3⟩
/-- an object becomes stable -/
theorem Glob.freeze (g : Glob K F0 ρ Hs st H) (hp : H p = some o) (hs : Hs p = none) (hf : F0 p = none) (hc : p ∉ ρ) : Glob K F0 ρ (upd Hs p o) st H where
  le := fun b u e => by
    by_cases q : b = p
    · subst q; rw [upd_same] at e; cases e; exact hp
    · rw [upd_ne q] at e; exact g.le b u e
  foe := fun b u e => by
    obtain ⟨h1, h2, h3⟩ := g.foe b u e
    exact ⟨h1, by rw [upd_ne (ne_of_none e hf)]; exact h2, h3⟩
  nd := g.nd
  len := g.len
  cell := fun i c e => by
    obtain ⟨a, h1, h2, h3⟩ := g.cell i c e
    have hm : a ∈ ρ := List.mem_of_getElem? h1
    have ne : a ≠ p := fun z => hc (z ▸ hm)
    exact ⟨a, h1, h2, by rw [upd_ne ne]; exact h3⟩
theorem Glob.notin (g : Glob K F0 ρ Hs st H) (hp : H p = none) : p ∉ ρ := fun hm => by
  obtain ⟨i, hi, e⟩ := List.mem_iff_getElem.mp hm
  have hi2 : i < st.length := g.len ▸ hi
  obtain ⟨a, h1, h2, _⟩ := g.cell i st[i] (List.getElem?_eq_getElem hi2)
  rw [List.getElem?_eq_getElem hi, e] at h1
  cases h1
  rw [hp] at h2; cases h2
theorem Glob.nofoe (g : Glob K F0 ρ Hs st H) (hp : H p = none) : F0 p = none := by
  cases e : F0 p with
  | none => rfl
  | some u => rw [(g.foe p u e).1] at hp; cases hp
/-- a new object is laid, stable at once -/
theorem Glob.new (g : Glob K F0 ρ Hs st H) (hp : H p = none) : Glob K F0 ρ (upd Hs p o) st (upd H p o) :=
  (g.own hp).freeze upd_same (g.fresh hp) (g.nofoe hp) (g.notin hp)
theorem Glob.at (g : Glob K F0 ρ Hs st H) {a : Addr} {u : HO} (h : At Hs a u) : At H a u := g.le.at h
theorem Glob.scr (g : Glob K F0 ρ Hs st H) {a : Addr} {vs : List V} (h : ScrAt K Hs a vs) : SqL K H a vs := by
  rcases h with ⟨o, h⟩ | h
  · exact .inl (.inr ⟨o, g.le _ _ h⟩)
  · exact .inr h
theorem Glob.tup (g : Glob K F0 ρ Hs st H) {a : Addr} {vs : List V} (h : Hs a = some (.tup vs)) : H a = some (.tup vs) := g.le _ _ h
theorem Glob.lst (g : Glob K F0 ρ Hs st H) {a : Addr} {vs : List V} (h : Hs a = some (.lst vs)) : H a = some (.lst vs) := g.le _ _ h
theorem Glob.frz (g : Glob K F0 ρ Hs st H) {a : Addr} {ob : Obj} {u : HO} (h : Hs a = some (.frz ob u)) : H a = some (.frz ob u) := g.le _ _ h
theorem Glob.ins (g : Glob K F0 ρ Hs st H) {a C dx : Addr} {fs : List (Str × V)} (h : Hs a = some (.ins C dx fs)) : H a = some (.ins C dx fs) := g.le _ _ h
end

/-! ### expressions by what they mean -/
def Ev (X : Cx) (e : Expr) : TE := fun σ H Q => ∀ (pins : List (Addr × Obj)) (s : Shared), Inv X pins σ H s → wpAny (model X.prog X.w) X.A (eval e X.env) (EP X pins σ Q) X.xe s
def EvT (X : Cx) (e : Expr) : TT := fun σ H Q => ∀ (pins : List (Addr × Obj)) (s : Shared), Inv X pins σ H s → wpAny (model X.prog X.w) X.A (isTrue e X.env (eval e X.env)) (TP X pins σ Q) X.xe s
def EvW (X : Cx) (e : Expr) : TT := fun σ H Q => ∀ (wh : Sem Value) (pins : List (Addr × Obj)) (s : Shared), Inv X pins σ H s → wpAny (model X.prog X.w) X.A (isTrue e X.env wh) (TP X pins σ Q) X.xe s
def EvA (X : Cx) (es : List Expr) : TA := fun σ H Q => ∀ (pos : Pos) (pins : List (Addr × Obj)) (s : Shared), Inv X pins σ H s → wpAny (model X.prog X.w) X.A (spliced (backTo pos (starEach es X.env))) (AP X pins σ Q) X.xe s
def EvS (X : Cx) (st : Stmt) : TS := fun D σ H => ∀ (pins : List (Addr × Obj)) (s : Shared), Inv X pins σ H s → wpAny (model X.prog X.w) X.A (exec st X.env) (SP X pins D) X.xe s
def EvSs (X : Cx) (st : List Stmt) : TS := fun D σ H => ∀ (pins : List (Addr × Obj)) (s : Shared), Inv X pins σ H s → wpAny (model X.prog X.w) X.A (execs st X.env) (SP X pins D) X.xe s
def EvI (X : Cx) (tg iter : Expr) : TI := fun σ H R => ∀ (pins : List (Addr × Obj)) (s : Shared), Inv X pins σ H s →
    wpAny (model X.prog X.w) X.A (eval iter X.env) (fun v s1 => wpAny (model X.prog X.w) X.A (pyIter v) (PIE X pins σ tg R) X.xe s1) X.xe s
section
variable {X : Cx}
theorem pe_ev {e : Expr} : PE X e (Ev X e) := ⟨fun pins s _ _ _ I h => h pins s I⟩
theorem pt_ev {e : Expr} : PT X e (EvT X e) := ⟨fun pins s _ _ _ I h => h pins s I⟩
theorem pw_ev {e : Expr} : PW X e (EvW X e) := ⟨fun wh pins s _ _ _ I h => h wh pins s I⟩
theorem pa_ev {es : List Expr} : PA X es (EvA X es) := ⟨fun pos pins s _ _ _ I h => h pos pins s I⟩
theorem ps_ev {st : Stmt} : PS X st (EvS X st) := ⟨fun pins s _ _ _ I h => h pins s I⟩
theorem pss_ev {st : List Stmt} : PSs X st (EvSs X st) := ⟨fun pins s _ _ _ I h => h pins s I⟩
theorem pi_ev {tg iter : Expr} : PI X tg iter (EvI X tg iter) := ⟨fun pins s _ _ _ I h => h pins s I⟩
theorem Ev.of {e : Expr} {t : TE} (h : PE X e t) {σ : L2.St} {H : Hp} {Q : VK} (q : t σ H Q) : Ev X e σ H Q := fun pins s I => h.run pins s σ H Q I q
theorem EvT.of {e : Expr} {t : TT} (h : PT X e t) {σ : L2.St} {H : Hp} {Q : Bool → Hp → Prop} (q : t σ H Q) : EvT X e σ H Q := fun pins s I => h.run pins s σ H Q I q
theorem EvW.of {e : Expr} {t : TT} (h : PW X e t) {σ : L2.St} {H : Hp} {Q : Bool → Hp → Prop} (q : t σ H Q) : EvW X e σ H Q := fun wh pins s I => h.run wh pins s σ H Q I q
theorem EvA.of {es : List Expr} {t : TA} (h : PA X es t) {σ : L2.St} {H : Hp} {Q : List V → Hp → Prop} (q : t σ H Q) : EvA X es σ H Q := fun pos pins s I => h.run pos pins s σ H Q I q
theorem EvS.of {st : Stmt} {t : TS} (h : PS X st t) {σ : L2.St} {H : Hp} {D : Ends} (q : t D σ H) : EvS X st D σ H := fun pins s I => h.run pins s σ H D I q
theorem EvSs.of {st : List Stmt} {t : TS} (h : PSs X st t) {σ : L2.St} {H : Hp} {D : Ends} (q : t D σ H) : EvSs X st D σ H := fun pins s I => h.run pins s σ H D I q
theorem EvI.of {tg iter : Expr} {t : TI} (h : PI X tg iter t) {σ : L2.St} {H : Hp} {R : It → Hp → Prop} (q : t σ H R) : EvI X tg iter σ H R := fun pins s I => h.run pins s σ H R I q
/-- what stands has a bounded size -/
def Bnd (H : Hp) : Prop := ∀ a, (∀ xs, H a = some (.lst xs) → xs.length ≤ sizeLine) ∧ (∀ xs, H a = some (.tup xs) → xs.length ≤ sizeLine) ∧ (∀ xs, Rd H a (.dK xs) → xs.length ≤ sizeLine) ∧ (∀ xs, Rd H a (.dT xs) → xs.length ≤ sizeLine)
theorem Inv.bnd {pins : List (Addr × Obj)} {σ : L2.St} {H : Hp} {s : Shared} (I : Inv X pins σ H s) : Bnd H := fun a => ⟨fun xs h => (I.hok a _ h).1, fun xs h => (I.hok a _ h).1, fun xs h => (h.ok I.hok).1, fun xs h => (h.ok I.hok).1⟩
theorem Ev.bnd {e : Expr} {σ : L2.St} {H : Hp} {Q : VK} (h : Ev X e σ H (fun v H' => Bnd H' → Q v H')) : Ev X e σ H Q := fun pins s I =>
  thn (h pins s I) fun u s' ⟨v, H', I', r, q⟩ => ⟨v, H', I', r, q (Inv.bnd I')⟩
theorem Ev.inv {e : Expr} {σ : L2.St} {H : Hp} {Q : VK} (h : ∀ pins s, Inv X pins σ H s → Ev X e σ H Q) : Ev X e σ H Q := fun pins s I => h pins s I pins s I
theorem EvS.inv {e : Stmt} {σ : L2.St} {H : Hp} {D : Ends} (h : ∀ pins s, Inv X pins σ H s → EvS X e D σ H) : EvS X e D σ H := fun pins s I => h pins s I pins s I
end
end Q

set_option Elab.async false
set_option linter.all false
set_option maxRecDepth 100000
set_option maxHeartbeats 2000000
namespace Q
open PySem PySem.Spec PyProof.Rows L2
/-! ### promises of defs that are called where no repr is under way -/
structure FnG (P : Program) (w : World) (K : PySem.W.Frag) (mg : Str → Option Value) (base : Heap) (CX : CXT) (k : Nat) (f : Addr) (fd : FuncData) (ps : List Str) (sp : Sp) : Prop where
  len : ∀ vs H Q E, sp vs H Q E → vs.length = ps.length
  go : ∀ (A : Around) (outer : List Env) (s : Shared) (H : Hp) (args : Args) (us : List Value) (vs : List V) (Q : VK) (E : XK), A.guards = some [] → Room k A → Env0 P w K mg base A outer s H →
    BindsTo s fd args (ps.zip us) → Vals vs us → sp vs H Q E → codeAny (model P w) A (.call (.ref f) args) (CR CX outer P w H s Q E) s
section
variable {P : Program} {w : World} {K : PySem.W.Frag} {mg : Str → Option Value} {base : Heap} {CX : CXT} {k : Nat} {f : Addr} {fd : FuncData} {ps : List Str} {sp : Sp}
theorem FnG.mono {j : Nat} (F : FnG P w K mg base CX j f fd ps sp) (h : j ≤ k) : FnG P w K mg base CX k f fd ps sp :=
  ⟨F.len, fun A outer s H args us vs Q E gd hr => F.go A outer s H args us vs Q E gd (hr.mono h)⟩
theorem FnG.of (F : FnOk P w K mg base CX k f fd ps sp) : FnG P w K mg base CX k f fd ps sp := ⟨F.len, fun A outer s H args us vs Q E _ hr => F.run A outer s H args us vs Q E hr⟩
/-- a def by its body -/
theorem FnG.def_ {x qual : Str} {params : Arguments} {body : List Stmt} {scope : Scope} {dvs : List V} {kws : List (Str × V)} {N : List Str} (F : FunD K x qual params body scope dvs kws f fd) (S : FnScope N ps scope) (len : ∀ vs H Q E, sp vs H Q E → vs.length = ps.length)
    (hb : ∀ (cdv : Value) (A : Around) (outer : List Env) (s : Shared) (H : Hp) (vs : List V) (Q : VK) (E : XK), A.guards = some [] → Room k (A.deeper (envOfC qual scope s.heap.objs.size f cdv)) → sp vs H Q E →
      ∃ t, PSs (cxOf CX P w K mg base N qual scope f cdv A outer s H E) body t ∧ t { nx := fun _ H' => Q .non H', rt := Q } (L2.start N vs) H) : FnG P w K mg base CX (k + 1) f fd ps sp := by
  obtain ⟨oc, od, dV, kV, doc, pm, an, cdv, ct, osl, rfl, lk, hcd, _, _⟩ := F.ex
  constructor
  · exact len
  intro A outer s H args us vs Q E gd hr e0 hbind r hsp
  have KX : K.In s.heap := e0.mod.kin.keeps (fun b o e => (e0.bs b o e).1)
  have lim : s.heap.NoLimit := e0.mod.nolimit.keeps (fun b o e => (e0.bs b o e).1)
  refine codeAny_call_function hr.depth (KX _ _ lk) rfl S.co S.gen rfl (PySem.W.codeRec_of KX hcd) (hbind _ _ _ _ (wpAny_newFunctionEnv_cells S.kind ?_ ?_))
  · rintro ⟨n, v⟩ hy
    exact (S.par n (List.of_mem_zip hy).1).imp id fun q => ⟨q, PySem.W.cellsFrom_some _ _ _ (.inl q)⟩
  · rintro env rfl s1 x
    refine ⟨lim.keeps x.toInCall.keep, codeAny_func ?_⟩
    obtain ⟨t, ht, hq⟩ := hb cdv A outer s H vs Q E gd (hr.deeper _) hsp
    have I := inv_start (CX := CX) (E := E) S hr.hd e0 (len _ _ _ _ hsp) r x
    refine wpAny_mono (ht.run [] s1 (L2.start N vs) H _ I hq) ?_ fun e s' hs => hs
    intro fl s' hs
    have fin : ∀ {σ' : L2.St} {H' : Hp} {v : V} {u : Value}, Inv (cxOf CX P w K mg base N qual scope f cdv A outer s H E) [] σ' H' s' → RelV v u → Q v H' → CE outer P w H s Q u s' := by
      intro σ' H' v u J rv q
      exact ⟨v, H', J.os, J.bare, J.base, J.hok, rv, q⟩
    match fl, hs with
    | .ret u, ⟨v, σ', H', J, rv, q⟩ => exact fin J rv q
    | .next, ⟨σ', H', J, q⟩ => exact fin (v := V.non) (u := Value.none) J rfl q
    | .brk, ⟨_, _, _, q⟩ => exact q.elim
    | .cont, ⟨_, _, _, q⟩ => exact q.elim
end
section
variable {X : Cx} {CX : CXT} {k : Nat} {f C : Addr} {fd : FuncData} {ps : List Str} {sp : Sp} {E : XK}
theorem ret_of {pins : List (Addr × Obj)} {σ : L2.St} {H : Hp} {s : Shared} {Q : VK} (I : Inv X pins σ H s) (hx : Passes CX X E) : ∀ (r : Result) (s' : Shared), CR CX X.stack X.prog X.w H s Q E r s' → (match r with
    | .ok (.ret u) => EP X pins σ Q u s'
    | .ok _ => False
    | .error e => X.xe e s') := by
  intro r s' h
  match r, h with
  | .error e, h => exact hx pins σ H s e s' I h
  | .ok (.ret u), h => exact I.after h
  | .ok .next, h => exact h.elim
  | .ok .brk, h => exact h.elim
  | .ok .cont, h => exact h.elim
/-- the callee runs -/
theorem FnG.runs {pins : List (Addr × Obj)} {σ : L2.St} {H : Hp} {s : Shared} {Q : VK} {us : List Value} {vs : List V} (F : FnG X.prog X.w X.K X.mg X.base CX k f fd ps sp) (gd : X.A.guards = some []) (hr : Room k X.A) (hb : Binds X.K fd ps []) (hx : Passes CX X E)
    (I : Inv X pins σ H s) (r : Vals vs us) (h : sp vs H Q E) : wpAny (model X.prog X.w) X.A (PySem.call (.ref f) us) (EP X pins σ Q) X.xe s := by
  have hl : (us ++ []).length = ps.length := by rw [List.append_nil, ← r.length]; exact F.len _ _ _ _ h
  have b := hb s us I.kIn hl
  rw [List.append_nil] at b
  refine wpAny_call (codeAny_mono (F.go X.A X.stack s H ⟨us, []⟩ us vs Q E gd hr I.env0 b r h) ?_)
  intro r s' hq
  have z := ret_of I hx r s' hq
  match r, z with
  | .error e, z => exact z
  | .ok (.ret u), z => exact z
  | .ok .next, z => exact z.elim
  | .ok .brk, z => exact z.elim
  | .ok .cont, z => exact z.elim
/-- f(e, ..) -/
theorem pe_callG {x : Str} {p pos : Pos} {e : Expr} {es : List Expr} {t : TA} (F : FnG X.prog X.w X.K X.mg X.base CX k f fd ps sp) (gd : X.A.guards = some []) (hr : Room k X.A) (hg : Gl X x) (hm : X.mg x = some (.ref f)) (hk : PySem.W.keepIn X.K (.ref f) = true) (hb : Binds X.K fd ps []) (hx : Passes CX X E)
    (ha : PA X (e :: es) t) (hdb : (x == ("__debug__" : Str)) = false) (he : starEach (e :: es) X.env = (false, eval e X.env) :: starEach es X.env) (hpl : (backTo pos (starEach es X.env)).any (·.1) = false) :
    PE X (.Call (.Name x p) (e :: es) [] pos) (fun σ H Q => t σ H fun vs H1 => sp vs H1 Q E) := by
  constructor
  intro pins s σ H Q I h
  exact wpAny_Call_Name_kw (ld_glob I hg hm (PySem.W.callWith_K (h₀ := X.base) I.ok.mod.kin hk (thn (ha.run pos pins s σ H _ I h) fun us s1 ⟨vs, H1, I1, r, q⟩ => ⟨I1.kIn, F.runs gd hr hb hx I1 r q⟩) he hpl) hdb)
/-- e.f, a property -/
theorem pe_propG {c : Cls X.K C} {fx : Str} {p g : Addr} {e : Expr} {pos : Pos} {ta : TE} (he : PE X e ta) (hp : PropOf X.K C fx p g) (F : FnG X.prog X.w X.K X.mg X.base CX k g fd ps sp) (gd : X.A.guards = some []) (hr : Room (k + 1) X.A) (hb : Binds X.K fd ps []) (hx : Passes CX X.nox E)
    (hab : attributeBase e fx X.env (eval e X.env) = eval e X.env) : PE X (.Attribute e fx pos) (tProp C sp [] E ta) := by
  constructor
  intro pins s0 σ H0 Q I0 h
  refine attr_of hab (thn (he.run pins s0 σ H0 _ I0 h) ?_)
  rintro u s ⟨x, H, I, rx, a, dx, fs, rfl, ea, q⟩
  obtain rfl : u = Value.ref a := rx
  obtain ⟨mA, O, _, _, _, _⟩ := ins_get I.hok ea
  obtain ⟨od, J, _⟩ := O.look
  obtain ⟨rest, hrec⟩ := hp.rec_
  have I1 := I.tok (s.toks + 1)
  have hl : ([Value.ref a] ++ []).length = ps.length := (F.len _ _ _ _ q).symm ▸ rfl
  have hc : (PySem.W.clsIn X.K C).isSome = true := by
    obtain ⟨cd, hc, _⟩ := PySem.W.any_some c.hd
    exact hc ▸ rfl
  refine PySem.W.get_bind I.kIn J (PySem.W.plainGet_of (c.get fx)).1 (PySem.W.findObj_data hc hp.at_ hp.get hp.tak) (PySem.W.plainGet_of (c.get fx)).2 (wpAny_call (PySem.W.prop_get (s := { s with toks := s.toks + 1 }) I.kIn hrec
    (codeAny_mono (F.go X.A.in1 X.stack { s with toks := s.toks + 1 } H ⟨[.ref a], []⟩ [.ref a] [.ref a] Q E gd hr.in1 I1.env0.in1 (hb _ [.ref a] I1.kIn hl) (.cons rfl .nil) q) ?_)))
  intro r s' hq
  match r, hq with
  | .error er, hq => exact (hx pins σ H { s with toks := s.toks + 1 } er s' (I1.wish _) hq).elim
  | .ok (.ret u), hq =>
    obtain ⟨v, H', I3, rv, q3⟩ := I1.after hq
    show wpAny _ _ (handedOut u) _ _ _
    rw [PySem.W.handedOut_of (handed_of rv)]
    exact wpAny_pure ⟨v, H', I3, rv, q3⟩
  | .ok .next, hq => exact hq.elim
  | .ok .brk, hq => exact hq.elim
  | .ok .cont, hq => exact hq.elim
/-- C(e, ..) -/
theorem pe_makeG {x : Str} {p pos : Pos} {e : Expr} {es : List Expr} {t : TA} (M : Mk X.K C f) (F : FnG X.prog X.w X.K X.mg X.base CX k f fd ps sp) (gd : X.A.guards = some []) (hr : Room (k + 1) X.A) (hg : Gl X x) (hm : X.mg x = some (.ref C)) (hb : Binds X.K fd ps []) (hx : Passes CX X E)
    (ha : PA X (e :: es) t) (hdb : (x == ("__debug__" : Str)) = false) (he : starEach (e :: es) X.env = (false, eval e X.env) :: starEach es X.env) (hpl : (backTo pos (starEach es X.env)).any (·.1) = false) :
    PE X (.Call (.Name x p) (e :: es) [] pos) (tMake C sp [] E t) := by
  constructor
  intro pins s0 σ H0 Q I0 h0
  refine wpAny_Call_Name_kw (ld_glob I0 hg hm (PySem.W.callWith_K (h₀ := X.base) I0.ok.mod.kin M.kp (thn (ha.run pos pins s0 σ H0 _ I0 h0) ?_) he hpl) hdb)
  rintro us s ⟨vs, H, I, r, h⟩
  refine ⟨I.kIn, ?_⟩
  have h := h (s.heap.objs.size + 1) s.heap.objs.size (I.hok.fresh (Nat.le_succ _)) (I.hok.fresh (Nat.le_refl _)) (Nat.ne_of_lt (Nat.lt_succ_self _))
  rw [List.append_nil] at h
  have I2 := Inv.made (C := C) I
  have r2 : Vals (V.ref (s.heap.objs.size + 1) :: vs) (Value.ref (s.heap.objs.size + 1) :: us) := .cons rfl r
  have hl : (Value.ref (s.heap.objs.size + 1) :: us ++ []).length = ps.length := by
    rw [List.append_nil, ← F.len _ _ _ _ h]; exact r2.length.symm
  have b := hb _ (Value.ref (s.heap.objs.size + 1) :: us) I2.kIn hl
  rw [List.append_nil] at b
  have gd2 : (X.A.under (.builtin "type.__call__" ⟨.ref C :: us, []⟩)).guards = some [] := by
    simp [Around.under, gd, pushGuards, Code.guards, Code.isGuard, guardIds]
  refine wpAny_call (make_map (f := f) I.kIn M.makes M.init (beq_iff_eq.mp M.fn) (codeAny_mono (F.go _ X.stack _ _ ⟨Value.ref (s.heap.objs.size + 1) :: us, []⟩ _ _ _ E gd2 (hr.make C us []) (I2.env0.make C us []) b r2 h) ?_))
  intro r s' hq
  match r, hq with
  | .error er, hq => exact hx pins σ _ _ er s' I2 hq
  | .ok (.ret u), hq =>
    obtain ⟨v, H', I3, rv, rfl, q3⟩ := I2.after hq
    exact ⟨rv, V.ref (s.heap.objs.size + 1), H', I3, rfl, q3⟩
  | .ok .next, hq => exact hq.elim
  | .ok .brk, hq => exact hq.elim
  | .ok .cont, hq => exact hq.elim
/-- o.m(e, ..) -/
theorem pe_methG {pl : Sem Bool} {m : Str} {o e : Expr} {es : List Expr} {pos apos : Pos} {ta : TE} {t : TA} (he : PE X o ta) (c : Cls X.K C) (hm : Meth X.K C m f) (F : FnG X.prog X.w X.K X.mg X.base CX k f fd ps sp) (gd : X.A.guards = some []) (hr : Room k X.A) (hb : Binds X.K fd ps []) (hx : Passes CX X E) (ha : PA X (e :: es) t)
    (hst : starEach (e :: es) X.env = (false, eval e X.env) :: starEach es X.env) (hpl : (backTo pos (starEach es X.env)).any (·.1) = false)
    (ht : eval (.Call (.Attribute o m apos) (e :: es) [] pos) X.env = (do
      let ov ← eval o X.env
      standAt apos.atName
      let (f, first) ← holding [ov] (getMethod ov m pl)
      callWith pos f first (backTo pos (starEach (e :: es) X.env)) (backToKw pos (keywordEach [] X.env)))) : PE X (.Call (.Attribute o m apos) (e :: es) [] pos) (tMeth C m sp [] E ta t) := by
  constructor
  intro pins s σ H Q I h
  refine PySem.W.methodCall_KW (pl := pl) (thn (he.run pins s σ H _ I h) ?_) ht
  rintro u s1 ⟨x, H1, I1, rx, a, dx, fs, rfl, ea, l, q⟩
  obtain rfl : u = Value.ref a := rx
  refine getmeth_ok I1 ea c hm l (PySem.W.callWith_K (first := [.ref a]) (h₀ := X.base) I.ok.mod.kin hm.kp (thn (ha.run pos pins s1 σ H1 _ I1 q) ?_) hst hpl)
  rintro us s2 ⟨vs, H2, I2, r, q2⟩
  rw [List.append_nil] at q2
  exact ⟨I2.kIn, F.runs (us := .ref a :: us) (vs := .ref a :: vs) gd hr hb hx I2 (.cons rfl r) q2⟩
end
/-! ### the law -/
theorem hid_keep {s : Shared} {H : Hp} {a : Addr} {vs : List Value} (ha : s.heap.get? a = some { cls := .type "list", data := .seq vs.toArray }) (hA : ∀ b, H b ≠ none → b = a) {b : Addr} {m : Str → Option Value} (h : s.heap.Ns b m) : (hidT s.heap H).Ns b m := by
  obtain ⟨o, es, ep, e, d, r⟩ := h
  refine ⟨o, es, ep, hidT_get e ?_, d, r⟩
  cases q : H b with
  | none => rfl
  | some u =>
    obtain rfl := hA b (fun z => by rw [z] at q; cases q)
    rw [ha] at e
    cases e
    cases (show Data.seq vs.toArray _ = Data.dict es ep from d)
theorem law_core {P : Program} {w : World} {K : PySem.W.Frag} {mg mb : Str → Option Value} {k : Nat} {fa a : Addr} {fd : FuncData} {x : Str} {sp : Sp} {s : Shared} {vs : List Value} {H : Hp}
    (KX : K.In s.heap) (hns : s.heap.Ns mainGlobals mg) (hb : s.heap.Ns builtinsNs mb) (hbb : ∀ x : Str, x ≠ "__name__" → mb x = bootBuiltins x) (hlim : s.heap.NoLimit) (hg : s.gens = #[])
    (ha : s.heap.get? a = some { cls := .type "list", data := .seq vs.toArray }) (hr : Room k callerA) (F : ∀ base : Heap, K.In base → base.Ns mainGlobals mg → FnG P w K mg base CX0 k fa fd [x] sp)
    (hbind : ∀ (s : Shared) (u : Value), BindsTo s fd ⟨[u], []⟩ [(x, u)]) (hsp : sp [.ref a] H (fun v _ => v = .bl true) E0) (hO : Only H) (hok : HOk P w H s.heap) (hA : ∀ b, H b ≠ none → b = a) (hK : H a ≠ none → K.lookup a = none) :
    codeAny (model P w) callerA (.call (.ref fa) ⟨[.ref a], []⟩) (fun r s' => r = .ok (.ret (.bool true)) ∧ OldK s.heap s'.heap ∧ s'.os = s.os ∧ AllBare s'.gens) s := by
  have hKb : K.In (hidT s.heap H) := fun b o e => by
    refine hidT_get (KX b o e) ?_
    cases q : H b with
    | none => rfl
    | some u =>
      have nn : H b ≠ none := fun z => by rw [z] at q; cases q
      obtain rfl := hA b nn
      rw [hK nn] at e
      cases e
  obtain ⟨mc, l1, l2⟩ := hlim
  have nsK : ∀ {b : Addr} {m : Str → Option Value}, s.heap.Ns b m → (hidT s.heap H).Ns b m := fun h => hid_keep ha hA h
  have e0 : Env0 P w K mg (hidT s.heap H) callerA [] s H :=
    { frames := rfl, mod := ⟨hKb, nsK hns, ⟨mb, nsK hb, hbb⟩, ⟨mc, nsK l1, l2⟩⟩, bs := fun b o e => of_hidT e, bsz := Nat.le_of_eq (hidT_size _ _), funs := trivial, frf := fun b z => absurd (show b ∈ ([] : List Addr) from z) List.not_mem_nil, hok := hok, bare := .of_eq hg }
  refine codeAny_mono ((F _ hKb (nsK hns)).go callerA [] s H ⟨[.ref a], []⟩ [.ref a] [.ref a] _ _ rfl hr e0 (hbind s (.ref a)) (.cons rfl .nil) hsp) ?_
  intro r s' h
  match r, h with
  | .error e, h => exact h.elim
  | .ok .next, h => exact h.elim
  | .ok .brk, h => exact h.elim
  | .ok .cont, h => exact h.elim
  | .ok (.ret u), ⟨v, H', os, bare, un, hok', r', q⟩ =>
    obtain rfl : v = .bl true := q
    obtain rfl : u = Value.bool true := r'
    refine ⟨rfl, OldK.of_keep ?_, os, bare⟩
    intro b o e
    rcases hO b with z | ⟨ob, xs, z⟩
    · exact un.keep b o e z (fun y => absurd (show b ∈ ([] : List Addr) from y) List.not_mem_nil) List.not_mem_nil
    · obtain ⟨e2, _⟩ := hok' b _ (un.frzs b ob _ z)
      obtain ⟨e1, _⟩ := hok b _ z
      rw [e] at e1
      cases e1
      exact e2
/-- from the law's promise -/
theorem walkG {l : PySem.W.OpenLaw} {n k : Nat} {q : Program} {loose : List Str} {XP : (Str → Option Value) → Heap → Prop} {YP : World → Heap → Prop} {d : DefRec} {x : Str} (hn : l.most = some n) (hn2 : n ≤ sizeLine) (hdf : d.params.defaults = []) (hr : Room k callerA)
    (F : ∀ (w : World) (mg : Str → Option Value) (fa : Addr) (h : Heap), YP w h → h.Ns mainGlobals mg → mg d.name = some (.ref fa) →
      ∃ (K : PySem.W.Frag) (fd : FuncData) (sp : Sp), K.In h ∧ (∀ (s : Shared) (u : Value), BindsTo s fd ⟨[u], []⟩ [(x, u)]) ∧
        (∀ (H : Hp) (a : Addr) (ns : List Int), ns.length ≤ n → Only H → SqL K H a (ns.map V.int) → sp [.ref a] H (fun v _ => v = .bl true) E0) ∧
        ∀ base : Heap, K.In base → base.Ns mainGlobals mg → FnG l.prog w K mg base CX0 k fa fd [x] sp) :
    PySem.W.WalkO q loose XP YP l.row.toRowW d [] (fun f vs => PySem.call f vs) := by
  apply Att.attach_call hn hdf
  intro w s₀ s mg mb fa o pm cd doc a vs ns G Y ho hd hcd hmg ha hints hlen hg
  obtain ⟨K, fd, sp, KX, hb, hsp, hF⟩ := F w mg fa _ Y G.T.g hmg
  have rv := vals_ints hints
  have hl : ns.length ≤ sizeLine := Nat.le_trans hlen hn2
  cases hk : K.lookup a with
  | some ob =>
    have e := KX a ob hk
    rw [ha] at e
    cases e
    have sq : SqL K (fun _ => none) a (ns.map V.int) := .inr ⟨_, vs.toArray, _, hk, rfl, rfl, rfl, by rw [List.size_toArray, hints.length]; exact hl, by simpa using rv⟩
    exact law_core KX G.T.g G.T.b G.T.builtins G.T.nolimit hg ha hr hF hb (hsp _ a ns hlen (fun _ => .inl rfl) sq) (fun _ => .inl rfl) (fun b u z => by cases (show (none : Option HO) = some u from z)) (fun b z => absurd rfl z) (fun z => absurd rfl z)
  | none =>
    let O : Obj := { cls := .type "list", data := .seq vs.toArray }
    let H : Hp := fun b => if b = a then some (.frz O (.lst (ns.map V.int))) else none
    have hO : Only H := fun b => by
      by_cases hb : b = a
      · exact .inr ⟨_, _, if_pos hb⟩
      · exact .inl (if_neg hb)
    have hA : ∀ b, H b ≠ none → b = a := fun b z => Decidable.byContradiction fun y => z (if_neg y)
    have hok : HOk l.prog w H s.heap := fun b u z => by
      by_cases hb : b = a
      · subst hb
        have z' := (if_pos rfl).symm.trans z
        cases z'
        exact ⟨ha, by rw [List.length_map]; exact hl, vs, _, rv, ha⟩
      · cases (if_neg hb).symm.trans z
    exact law_core KX G.T.g G.T.b G.T.builtins G.T.nolimit hg ha hr hF hb (hsp H a ns hlen hO (.inl (.inr ⟨O, if_pos rfl⟩))) hO hok hA (fun _ => hk)
end Q

set_option Elab.async false
set_option linter.all false
set_option maxRecDepth 100000
set_option maxHeartbeats 2000000
namespace Q
open PySem PySem.Spec PyProof.Rows L2
/-! ### sets of keyed things -/
structure SetW (w : World) {κ : Type} (hash : κ → Int) (ok : Heap → κ → Value → Prop) (h : Heap) (a : Addr) (L : List (Value × κ)) (es : Array (Int × Value)) (ep : Nat) (t : SetTable) : Prop where
  ob : ∃ o, h.get? a = some o ∧ o.ExactSet ∧ o.data = .set es ep t
  rows : es.toList = L.map fun p => (hash p.2, p.1)
  nd : (L.map (·.2)).Nodup
  el : ∀ p ∈ L, ok h p.2 p.1
  few : L.length < 64
  fits : t.fits es.size = true
  ris : Ris t.place.toList
  led : w.params.followText "set-order" = true ∨ t.led = true
theorem SetW.size {w : World} {κ : Type} {hash : κ → Int} {ok : Heap → κ → Value → Prop} {h : Heap} {a : Addr} {L : List (Value × κ)} {es : Array (Int × Value)} {ep : Nat} {t : SetTable} (R : SetW w hash ok h a L es ep t) : es.size = L.length := by
  simpa using congrArg List.length R.rows
/-- a kind of things that a set can hold -/
structure SetKd (P : Program) (w : World) (κ : Type) where
  hash : κ → Int
  ok : Heap → κ → Value → Prop
  more : SetTable → List Int → Prop
  cost : κ → Nat
  keep : ∀ {h h' : Heap} {a : Addr} {o : Obj} {es : Array (Int × Value)} {ep : Nat} {t : SetTable} {k : κ} {v : Value}, h.get? a = some o → o.data = .set es ep t → Heap.SameBut a h h' → ok h k v → ok h' k v
  stay : ∀ {h h' : Heap} {k : κ} {v : Value}, (∀ b o, h.get? b = some o → h'.get? b = some o) → ok h k v → ok h' k v
  one : ∀ {h : Heap} {k k' : κ} {v : Value}, ok h k v → ok h k' v → k = k'
  pyh : ∀ {A : Around} {E : Value → Shared → Prop} {s : Shared} {k : κ} {v : Value} {Q : Int → Shared → Prop}, A.units < cLine → ok s.heap k v → Q (hash k) { s with toks := s.toks + cost k } → wpAny (model P w) A (pyHash v) Q E s
  fresh : ∀ led : Bool, more (.fresh 0 0 led) []
  add : ∀ {A : Around} {E : Value → Shared → Prop} {s : Shared} {a : Addr} {L : List (Value × κ)} {es : Array (Int × Value)} {ep : Nat} {t : SetTable} {x : Value} {k : κ} {Q : Bool → Shared → Prop}, A.units < cLine → SetW w hash ok s.heap a L es ep t → more t (L.map fun p => hash p.2) →
    ok s.heap k x → L.length + 1 < 64 → (∀ b h' L' es' ep' t', Heap.SameBut a s.heap h' → SetW w hash ok h' a L' es' ep' t' → more t' (L'.map fun p => hash p.2) → (k ∈ L.map (·.2) → L' = L) → (k ∉ L.map (·.2) → L'.Perm ((x, k) :: L)) → Q b { s with heap := h' }) →
    wpAny (model P w) A (setAddHashed a x (hash k)) Q E s
section
variable {P : Program} {w : World} {A : Around} {E : Value → Shared → Prop} {s : Shared} {a : Addr}
/-! ### ints and texts -/
theorem gave_ok {b : Bool} {Q' : Unit → Shared → Prop} (q : Q' () s) : wpAny (model P w) A (match b with | true => rule "set.scan.the-table-gave-way" | false => pure ()) Q' E s := by
  cases b
  · exact wpAny_pure q
  · exact wpAny_rule q
def okS (P : Program) (w : World) (_ : Heap) (k : Key) (v : Value) : Prop := (mixKind P w).is k v = true ∧ v.scannable = true
theorem rows_perm {κ : Type} {hash : κ → Int} : ∀ {es : List (Int × Value)} {L : List (Value × κ)}, es.Perm (L.map fun p => (hash p.2, p.1)) → ∃ L' : List (Value × κ), L'.Perm L ∧ es = L'.map fun p => (hash p.2, p.1) := by
  intro es L h
  generalize hm : (L.map fun p => (hash p.2, p.1)) = M at h
  induction h generalizing L with
  | nil => exact ⟨[], by rw [List.map_eq_nil_iff] at hm; rw [hm], rfl⟩
  | @cons x l1 l2 h ih =>
    cases L with
    | nil => cases hm
    | cons p L =>
      rw [List.map_cons, List.cons.injEq] at hm
      obtain ⟨L', h1, h2⟩ := ih hm.2
      exact ⟨p :: L', h1.cons p, by rw [List.map_cons, h2, hm.1]⟩
  | @swap x y l =>
    match L, hm with
    | p :: q :: L, hm =>
      rw [List.map_cons, List.map_cons, List.cons.injEq, List.cons.injEq] at hm
      exact ⟨q :: p :: L, .swap p q L, by rw [List.map_cons, List.map_cons, hm.1, hm.2.1, hm.2.2]⟩
  | @trans l1 l2 l3 h1 h2 ih1 ih2 =>
    obtain ⟨L1, q1, q2⟩ := ih2 hm
    obtain ⟨L2, q3, q4⟩ := ih1 q2.symm
    exact ⟨L2, q3.trans q1, q4⟩
theorem okS_elems {h : Heap} {L : List (Value × Key)} {l : List (Int × Value)} (e : l = L.map fun p => ((mixKind P w).hash p.2, p.1)) (o : ∀ p ∈ L, okS P w h p.2 p.1) : ElemsOf (mixKind P w) l := by
  subst e
  intro e he
  obtain ⟨p, hp, rfl⟩ := List.mem_map.mp he
  exact ⟨⟨p.2, (o p hp).1, rfl⟩, (o p hp).2⟩
/-- the table is stored, and laid anew where it is too full -/
theorem scan_store {g : Bool → Sem Unit} (hg : ∀ (b : Bool) (s₁ : Shared) (Q' : Unit → Shared → Prop), Q' () s₁ → wpAny (model P w) A (g b) Q' E s₁) {o : Obj} {es es1 : Array (Int × Value)} {ep : Nat} {t t1 : SetTable} {L1 : List (Value × Key)} {wd : Bool} {R : Option Bool → Shared → Prop}
    (ho : s.heap.get? a = some o) (hx : o.ExactSet) (hd : o.data = .set es ep t) (rw1 : es1.toList = L1.map fun p => ((mixKind P w).hash p.2, p.1)) (nd : (L1.map (·.2)).Nodup) (el : ∀ p ∈ L1, okS P w s.heap p.2 p.1) (few : L1.length < 64) (ft : t1.fits es1.size = true) (rs : Ris t1.place.toList)
    (ld : w.params.followText "set-order" = true ∨ t1.led = true) (hR : ∀ h' L' es' ep' t', Heap.SameBut a s.heap h' → SetW w (mixKind P w).hash (okS P w) h' a L' es' ep' t' → L'.Perm L1 → R (some true) { s with heap := h' }) :
    wpAny (model P w) A (do
        storeSet a es1 t1
        if (!wd && t1.tooFull) = true then do
            g (relayAll t1 es1 (SetTable.grown es1.size)).2.2
            storeSet a (relayAll t1 es1 (SetTable.grown es1.size)).1 (relayAll t1 es1 (SetTable.grown es1.size)).2.1
            pure (some true)
          else pure (some true)) R E s := by
  have sz : es1.size = L1.length := by simpa using congrArg List.length rw1
  refine wpAny_bind (wpAny_storeSet_of ho hd ?_ (by rw [sz, sizeLine_eq]; omega))
  have ho1 := store_at (es' := es1) (t' := t1) ho hd
  have b1 : Heap.SameBut a s.heap (s.heap.update a (Obj.putSet es1 t1)) := Heap.SameBut.update ..
  generalize s.heap.update a (Obj.putSet es1 t1) = h1 at ho1 b1 ⊢
  split
  · have pm := relayAll_perm t1 es1 (SetTable.grown es1.size)
    have f3 := relayAll_fits t1 es1 (SetTable.grown es1.size)
    have r3 := relayAll_ris t1 es1 (SetTable.grown es1.size)
    have l3 := relayAll_led t1 es1 (SetTable.grown es1.size)
    generalize relayAll t1 es1 (SetTable.grown es1.size) = Z at pm f3 r3 l3 ⊢
    rw [rw1] at pm
    obtain ⟨L2, p1, p2⟩ := rows_perm pm
    have sz2 : Z.1.size = L2.length := by simpa using congrArg List.length p2
    refine wpAny_bind (hg _ _ _ (wpAny_bind (wpAny_storeSet_of (s := { s with heap := h1 }) ho1 rfl (wpAny_pure ?_) (by rw [sz2, p1.length_eq, sizeLine_eq]; omega))))
    refine hR _ L2 Z.1 (ep + 1 + 1) Z.2.1 (b1.trans (Heap.SameBut.update _ a _)) ⟨⟨_, store_at ho1 rfl, ⟨hx.1, hx.2.1, hx.2.2⟩, rfl⟩, p2, (p1.map _).nodup_iff.mpr nd, fun p hp => el p (p1.mem_iff.mp hp), by rw [p1.length_eq]; exact few, f3, r3, by rw [l3]; exact ld⟩ p1
  · exact wpAny_pure (hR h1 L1 es1 (ep + 1) t1 b1 ⟨⟨_, ho1, ⟨hx.1, hx.2.1, hx.2.2⟩, rfl⟩, rw1, nd, el, few, ft, rs, ld⟩ (.refl _))
theorem add_scan {L : List (Value × Key)} {es : Array (Int × Value)} {ep : Nat} {t : SetTable} {x : Value} {k : Key} {Q : Bool → Shared → Prop} (W : SetW w (mixKind P w).hash (okS P w) s.heap a L es ep t) (hk : okS P w s.heap k x) (few : L.length + 1 < 64)
    (hQ : ∀ b h' L' es' ep' t', Heap.SameBut a s.heap h' → SetW w (mixKind P w).hash (okS P w) h' a L' es' ep' t' → (k ∈ L.map (·.2) → L' = L) → (k ∉ L.map (·.2) → L'.Perm ((x, k) :: L)) → Q b { s with heap := h' }) :
    wpAny (model P w) A (setAddHashed a x ((mixKind P w).hash k)) Q E s := by
  obtain ⟨o, ho, hx, hd⟩ := W.ob
  have hel := okS_elems W.rows W.el
  have sb : es.size < scanBound := by rw [W.size]; exact Nat.lt_trans W.few (by decide)
  unfold setAddHashed setAddHashedIn
  refine wpAny_holding (wpAny_bind (wpAny_setState_of ho hd W.fits ?_))
  dsimp only
  rw [byScan_of hk.2 sb hel]
  simp only [↓reduceIte]
  unfold setAddByScan
  refine wpAny_bind (wpAny_bind (wpAny_rule (wpAny_bind (wpAny_setScan_of hk.1 ho hd W.fits hel ?_))))
  have mem : k ∈ L.map (·.2) ↔ ∃ e ∈ es.toList, (mixKind P w).is k e.2 = true := by
    rw [W.rows]
    constructor
    · intro h
      obtain ⟨p, hp, rfl⟩ := List.mem_map.mp h
      exact ⟨_, List.mem_map.mpr ⟨p, hp, rfl⟩, (W.el p hp).1⟩
    · rintro ⟨e, he, q⟩
      obtain ⟨p, hp, rfl⟩ := List.mem_map.mp he
      exact List.mem_map.mpr ⟨p, hp, (mixKind P w).inj _ _ _ (W.el p hp).1 q⟩
  cases hf : List.findIdx? (fun e => (mixKind P w).is k e.2) es.toList with
  | some j =>
    obtain ⟨hj, pj, _⟩ := List.findIdx?_eq_some_iff_getElem.mp hf
    have hm := mem.mpr ⟨_, List.getElem_mem hj, pj⟩
    exact wpAny_pure (wpAny_pure (hQ false s.heap L es ep t (.refl a s.heap) W (fun _ => rfl) fun z => absurd hm z))
  | none =>
    have hm : k ∉ L.map (·.2) := fun z => by
      obtain ⟨e, he, q⟩ := mem.mp z
      rw [List.findIdx?_eq_none_iff.mp hf e he] at q
      cases q
    have pm := layNew_perm t es ((mixKind P w).hash k) x
    have f1 := layNew_fits t es ((mixKind P w).hash k) x
    have r1 := layNew_ris t es ((mixKind P w).hash k) x W.ris
    have l1 := layNew_led t es ((mixKind P w).hash k) x
    dsimp only
    generalize layNew t es ((mixKind P w).hash k) x = Z at pm f1 r1 l1 ⊢
    obtain ⟨es1, t1, wd, gv⟩ := Z
    dsimp only at pm f1 r1 l1 ⊢
    rw [Array.toList_push, W.rows] at pm
    have pm : es1.toList.Perm ((((x, k) :: L)).map fun p => ((mixKind P w).hash p.2, p.1)) := pm.trans (List.perm_append_singleton _ _)
    obtain ⟨L1, p1, p2⟩ := rows_perm pm
    have nd1 : (L1.map (·.2)).Nodup := (p1.map _).nodup_iff.mpr (List.nodup_cons.mpr ⟨hm, W.nd⟩)
    have el1 : ∀ p ∈ L1, okS P w s.heap p.2 p.1 := fun p hp => by
      rcases List.mem_cons.mp (p1.mem_iff.mp hp) with rfl | z
      · exact hk
      · exact W.el p z
    have fw1 : L1.length < 64 := by rw [p1.length_eq]; exact few
    have ld1 : w.params.followText "set-order" = true ∨ t1.led = true := by rw [l1]; exact W.led
    refine wpAny_bind (gave_ok ?_)
    have fin : ∀ h' L' es' ep' t', Heap.SameBut a s.heap h' → SetW w (mixKind P w).hash (okS P w) h' a L' es' ep' t' → L'.Perm L1 → Q true { s with heap := h' } := fun h' L' es' ep' t' b W' q => hQ true h' L' es' ep' t' b W' (fun z => absurd z hm) fun _ => q.trans p1
    have hg : ∀ (b : Bool) (s₁ : Shared) (Q' : Unit → Shared → Prop), Q' () s₁ → wpAny (model P w) A (match b with | true => rule "set.scan.the-table-gave-way" | false => pure ()) Q' E s₁ := fun b s₁ Q' q => gave_ok q
    split
    · refine wpAny_bind ?_
      rw [hashByValue_scannable 8 hk.2]
      refine wpAny_pure (scan_store hg ho hx hd p2 nd1 el1 fw1 ?_ ?_ ?_ fun h' L' es' ep' t' b W' q => wpAny_pure (fin h' L' es' ep' t' b W' q))
      · split
        · exact f1
        · exact SetTable.fits_plain_off f1
      · split <;> exact r1
      · split <;> exact ld1
    · refine wpAny_bind (wpAny_pure ?_)
      simp only [↓reduceIte]
      exact scan_store hg ho hx hd p2 nd1 el1 fw1 f1 r1 ld1 fun h' L' es' ep' t' b W' q => wpAny_pure (fin h' L' es' ep' t' b W' q)
def kdS (P : Program) (w : World) : SetKd P w Key where
  hash := (mixKind P w).hash
  ok := okS P w
  more := fun _ _ => True
  cost := fun _ => 1
  keep := fun _ _ _ h => h
  stay := fun _ h => h
  one := fun h h' => (mixKind P w).inj _ _ _ h.1 h'.1
  pyh := fun _ h q => (mixKind P w).pyHash h.1 q
  fresh := fun _ => trivial
  add := fun hu W _ hk few hQ => add_scan W hk few fun b h' L' es' ep' t' sb W' h1 h2 => hQ b h' L' es' ep' t' sb W' trivial h1 h2
end
end Q

set_option Elab.async false
set_option linter.all false
set_option maxRecDepth 100000
set_option maxHeartbeats 2000000
namespace Q
open PySem PySem.Spec PyProof.Rows L2
section
variable {P : Program} {w : World} {A : Around} {E : Value → Shared → Prop} {s : Shared} {a : Addr}
/-! ### tuples of ints and texts -/
abbrev kT (P : Program) (w : World) (h : Heap) (k : List Key) (b : Addr) : Prop := IsTupleKey (mixKind P w) h k b
abbrev hT (P : Program) (w : World) (k : List Key) : Int := tupleKeyHash (mixKind P w) k
def okT (P : Program) (w : World) (h : Heap) (k : List Key) (v : Value) : Prop := ∃ b, v = .ref b ∧ kT P w h k b
theorem flat_items {k : List Key} {vs : List Value} (h : ItemsAre (mixKind P w) k vs) : ∀ v ∈ vs, (∃ i t, v = Value.int i t) ∨ ∃ x t, v = Value.str x t := by
  induction h with
  | nil => exact fun v hv => nomatch hv
  | @cons k0 v' ks vs h1 _ ih =>
    intro v hv
    cases hv with
    | head =>
      rcases keyIs_shape h1 with ⟨i, t, _, e⟩ | ⟨x, t, _, e⟩
      · exact .inl ⟨i, t, e⟩
      · exact .inr ⟨x, t, e⟩
    | tail _ hv => exact ih v hv
/-- of no class statement -/
theorem noclass_tup {k : List Key} {b : Addr} {Q : Bool → Shared → Prop} (hk : kT P w s.heap k b) (h : Q false s) : wpAny (model P w) A (ofAClassStatement 8 (.ref b)) Q E s := by
  have ty := hk.typeIs
  obtain ⟨o, its, n, ho, _, hd, hi⟩ := hk
  unfold ofAClassStatement
  refine wpAny_bind (wpAny_typeOf ty ?_)
  dsimp only
  simp only [show (("tuple" : String) == "tuple") = true from by decide, if_true]
  try refine wpAny_bind (wpAny_pure ?_)
  try simp only [Bool.not_true, Bool.false_eq_true, if_false]
  refine wpAny_bind (wpAny_seqItems ho hd (wpAny_bind ?_))
  show wpAny _ _ (forIn its _ _) _ _ s
  rw [← Array.forIn_toList]
  refine wpAny_forIn_list _ (fun rest r s' => r.1 = none ∧ s' = s ∧ ∀ v ∈ rest, (∃ i t, v = Value.int i t) ∨ ∃ x t, v = Value.str x t) _ ?_ ?_ _ _ ⟨rfl, rfl, flat_items hi⟩
  · rintro v rest r s' ⟨_, rfl, al⟩
    have go : ofAClassStatement 7 v = pure false := by rcases al v (.head _) with ⟨i, t, rfl⟩ | ⟨x, t, rfl⟩ <;> rfl
    rw [go]
    refine wpAny_bind (wpAny_pure ?_)
    simp only [Bool.false_eq_true, if_false]
    exact wpAny_pure ⟨rfl, rfl, fun u hu => al u (.tail _ hu)⟩
  · rintro ⟨r1, r2⟩ s' ⟨hr, rfl, _⟩
    cases (show r1 = none from hr)
    exact wpAny_pure h
/-- whether the hash hangs on the value alone: whichever -/
theorem byval_tup {k : List Key} {b : Addr} {Q : Bool → Shared → Prop} (hk : kT P w s.heap k b) (h : ∀ c, Q c s) : wpAny (model P w) A (hashByValue 8 (.ref b)) Q E s := by
  have ty := hk.typeIs
  obtain ⟨o, its, n, ho, _, hd, hi⟩ := hk
  unfold hashByValue
  refine wpAny_bind (wpAny_specialOf ty F.slot_tuple_hash.lookup ?_)
  show wpAny _ _ (seqItems? (.ref b) >>= _) _ _ s
  refine wpAny_bind (wpAny_seqItems ho hd (wpAny_bind ?_))
  show wpAny _ _ (forIn its _ _) _ _ s
  rw [← Array.forIn_toList]
  refine wpAny_forIn_list _ (fun rest r s' => s' = s ∧ ∀ v ∈ rest, (∃ i t, v = Value.int i t) ∨ ∃ x t, v = Value.str x t) _ ?_ ?_ _ _ ⟨rfl, flat_items hi⟩
  · rintro v rest r s' ⟨rfl, al⟩
    rcases al v (.head _) with ⟨i, t, rfl⟩ | ⟨x, t, rfl⟩
    · rw [show hashByValue 7 (.int i t) = pure true from rfl]
      refine wpAny_bind (wpAny_pure ?_)
      simp only [Bool.not_true, Bool.false_eq_true, if_false]
      exact wpAny_pure ⟨rfl, fun u hu => al u (.tail _ hu)⟩
    · rw [show hashByValue 7 (.str x t) = pure false from rfl]
      refine wpAny_bind (wpAny_pure ?_)
      simp only [Bool.not_false, if_true]
      exact wpAny_pure (wpAny_pure (h _))
  · rintro ⟨r1, r2⟩ s' ⟨rfl, _⟩
    cases r1 with
    | none => exact wpAny_pure (h _)
    | some c => exact wpAny_pure (h _)
/-- a search among tuples is not seen -/
theorem unseen_tup {k : List Key} {b : Addr} {Q : Bool → Shared → Prop} (hk : kT P w s.heap k b) {ys : List Value} (hy : ∀ y ∈ ys, ∃ k', okT P w s.heap k' y) (h : Q false s) : wpAny (model P w) A (searchCouldBeSeen (.ref b) ys) Q E s := by
  unfold searchCouldBeSeen
  refine wpAny_bind (wpAny_forIn_list _ (fun rest r s' => r.1 = none ∧ s' = s ∧ ∀ y ∈ rest, ∃ k', okT P w s.heap k' y) _ ?_ ?_ _ _ ⟨rfl, rfl, hy⟩)
  · rintro v rest r s' ⟨_, rfl, al⟩
    obtain ⟨k', c, rfl, hc⟩ := al v (.head _)
    have tl : ∀ y ∈ rest, ∃ k', okT P w s'.heap k' y := fun u hu => al u (.tail _ hu)
    dsimp only
    by_cases hv : (b == c || (carriedByValue (.ref b) && carriedByValue (.ref c))) = true
    · exact wp_if_pos hv (wpAny_pure ⟨rfl, rfl, tl⟩)
    · refine wp_if_neg hv (wpAny_bind (wpAny_eqIsQuiet_tuple hk ?_))
      simp only [Bool.not_true, Bool.false_eq_true, if_false]
      refine wpAny_bind (wpAny_eqIsQuiet_tuple hc ?_)
      simp only [Bool.not_true, Bool.false_eq_true, if_false]
      refine wpAny_bind (noclass_tup hk ?_)
      simp only [Bool.false_eq_true, if_false]
      refine wpAny_bind (noclass_tup hc ?_)
      simp only [Bool.false_eq_true, if_false]
      exact wpAny_pure ⟨rfl, rfl, tl⟩
  · rintro ⟨r1, r2⟩ s' ⟨hr, rfl, _⟩
    cases (show r1 = none from hr)
    exact wpAny_pure h
/-! ### the search -/
def TbOk (t : SetTable) (hs : List Int) : Prop := TabOk t hs ∧ hs.length * 5 < t.mask * 3
variable {L : List (Value × List Key)} {es : Array (Int × Value)} {ep : Nat} {t : SetTable}
abbrev SetT (P : Program) (w : World) (h : Heap) (a : Addr) (L : List (Value × List Key)) (es : Array (Int × Value)) (ep : Nat) (t : SetTable) : Prop := SetW w (hT P w) (okT P w) h a L es ep t
theorem SetT.at_ (W : SetT P w s.heap a L es ep t) {i : Nat} {p : Value × List Key} (h : L[i]? = some p) : es[i]? = some (hT P w p.2, p.1) := by
  rw [← Array.getElem?_toList, W.rows, List.getElem?_map, h]
  rfl
theorem nth_dm (m : Nat) : ∀ (n : Nat) (p : SetTable.Probe), p.dummy = none → (nth m p n).dummy = none
  | 0, p, h => h
  | n + 1, p, h => nth_dm m n (adv m p) (by unfold adv; split <;> exact h)
/-- the c-th state of the way of hash g -/
abbrev pr (m : Nat) (g : Int) (c : Nat) : SetTable.Probe := nth m (runAt m (SetTable.bits g % (m + 1)) (SetTable.bits g)) c
theorem find_tup (W : SetT P w s.heap a L es ep t) (T : TbOk t (L.map fun p => hT P w p.2)) {x : Addr} {k : List Key} (hx : kT P w s.heap k x) (hu : A.units < cLine) {K : Nat} (hKf : K < 10 * SetTable.turns t.mask)
    (hK : way t.mask (hT P w k) K ∉ t.place.toList) (hKb : ∀ c, c < K → way t.mask (hT P w k) c ∈ t.place.toList) {Q : SetFound → Shared → Prop} (hin : k ∈ L.map (·.2) → Q (.there none) s) (hout : k ∉ L.map (·.2) → Q (.free (way t.mask (hT P w k) K) false) s) :
    ∀ (f c : Nat) (stand : Option SetTable.Probe), stand.getD (t.probeStart (hT P w k)) = pr t.mask (hT P w k) c → c ≤ K → K - c < f → (∀ (i : Nat) p, L[i]? = some p → p.2 = k → ∃ c', c ≤ c' ∧ c' < K ∧ t.place.toList[i]? = some (way t.mask (hT P w k) c')) →
      wpAny (model P w) A (setSearchFrom a (.ref x) (hT P w k) true f stand) Q E s := by
  intro f
  induction f with
  | zero => exact fun c stand _ _ z _ => absurd z (Nat.not_lt_zero _)
  | succ f ih =>
    intro c stand hst hc hf hre
    obtain ⟨o, ho, _, hd⟩ := W.ob
    have gw : ¬ t.gaveWay = true := by
      unfold SetTable.gaveWay
      rw [mask_odd T.1.mok]
      decide
    rw [setSearchFrom_succ]
    refine wpAny_bind (wpAny_setState_of ho hd W.fits (wp_if_neg gw ?_))
    try refine wpAny_bind (wpAny_pure ?_)
    have sh : ∀ q, nth t.mask (pr t.mask (hT P w k) c) q = pr t.mask (hT P w k) (c + q) := fun q => (nth_add t.mask c _ q).symm
    have sj : ∀ q, (nth t.mask (pr t.mask (hT P w k) c) q).j = way t.mask (hT P w k) (c + q) := fun q => by rw [sh]
    have cK : c + (K - c) = K := by omega
    have hat : ∀ (i : Nat) p, L[i]? = some p → (es[i]?.map (·.1)).getD 0 = hT P w p.2 := fun i p hp => by rw [W.at_ hp]; rfl
    have lenL : t.place.toList.length = L.length := by rw [Array.length_toList, T.1.sz, List.length_map]
    rcases go_spec t T.1.ris T.1.dm (fun i => (es[i]?.map (·.1)).getD 0) (hT P w k) (10 * SetTable.turns t.mask) (K - c) (pr t.mask (hT P w k) c) (nth_dm _ _ _ rfl) (by omega) (fun q hq => by rw [sj]; exact hKb _ (by omega)) (by rw [sj, cK]; exact hK) with ⟨q, i, hq, hi, hh, hno, hpr⟩ | ⟨hno, hpr⟩
    · rw [sj, sh] at hpr
      rw [sj] at hi
      rw [show t.probe (fun i => (es[i]?.map (·.1)).getD 0) (hT P w k) (stand.getD (t.probeStart (hT P w k))) = some (.candidate (way t.mask (hT P w k) (c + q)) i (pr t.mask (hT P w k) (c + (q + 1)))) from by rw [hst]; exact hpr]
      dsimp only
      have il : i < L.length := by rw [← lenL]; exact (List.getElem?_eq_some_iff.mp hi).1
      obtain ⟨p, hp⟩ : ∃ p, L[i]? = some p := ⟨_, List.getElem?_eq_getElem il⟩
      have pm : p ∈ L := List.mem_of_getElem? hp
      obtain ⟨b, pb, hb⟩ := W.el p pm
      have rest : wpAny (model P w) A (searchRest a (.ref x) (hT P w k) true f es t (way t.mask (hT P w k) (c + q)) i (pr t.mask (hT P w k) (c + (q + 1)))) Q E s := by
        unfold searchRest
        rw [W.at_ hp, pb]
        refine wpAny_bind (wpAny_holding (wpAny_eqBool_tuple hu hb hx (wpAny_bind (wpAny_setState_of ho hd W.fits ?_))))
        dsimp only
        by_cases e : p.2 = k
        · exact wp_if_pos (by simp [e]) (wpAny_pure (hin (List.mem_map.mpr ⟨p, pm, e⟩)))
        · refine wp_if_neg (by simp [e]) ?_
          try refine wpAny_bind (wpAny_pure ?_)
          have sl : t.slot (way t.mask (hT P w k) (c + q)) = .live i := slot_live T.1.ris hi
          rw [sameMem]
          simp only [if_true, sl, W.at_ hp, pb]
          refine wpAny_bind (wpAny_isSame_ref_self (wpAny_bind (wpAny_pure ?_)))
          simp only [if_true]
          refine wp_if_neg (by simp [e]) (ih (c + (q + 1)) _ rfl (by omega) (by omega) ?_)
          intro i0 p0 h0 hk0
          obtain ⟨c', a1, a2, a3⟩ := hre i0 p0 h0 hk0
          refine ⟨c', ?_, a2, a3⟩
          rcases Nat.lt_trichotomy c' (c + q) with z | z | z
          · refine (hno (c' - c) i0 (by omega) (by rw [sj, show c + (c' - c) = c' by omega]; exact a3) ?_).elim
            rw [← hk0]; exact hat i0 p0 h0
          · subst z
            have s0 := slot_live T.1.ris a3
            rw [sl] at s0
            cases s0
            rw [hp] at h0
            cases h0
            exact (e hk0).elim
          · omega
      by_cases ld : t.led = true
      · refine wp_if_neg (by simp [ld]) ?_
        try refine wpAny_bind (wpAny_pure ?_)
        exact rest
      · refine wp_if_pos (by simp [ld]) (wpAny_bind (unseen_tup hx (fun y hy => ?_) ?_))
        · obtain ⟨r, hr, rfl⟩ := List.mem_map.mp hy
          have hr1 : r ∈ es ∧ r.1 = hT P w k := by simpa using hr
          have hr2 : r ∈ es.toList := by simpa using hr1.1
          rw [W.rows] at hr2
          obtain ⟨p2, hp2, rfl⟩ := List.mem_map.mp hr2
          exact ⟨p2.2, W.el p2 hp2⟩
        · refine wp_if_neg (by decide) ?_
          try refine wpAny_bind (wpAny_pure ?_)
          exact rest
    · rw [sj, cK] at hpr
      rw [show t.probe (fun i => (es[i]?.map (·.1)).getD 0) (hT P w k) (stand.getD (t.probeStart (hT P w k))) = some (.empty (way t.mask (hT P w k) K) none) from by rw [hst]; exact hpr]
      refine wpAny_pure (hout fun hm => ?_)
      obtain ⟨p0, h0, hk0⟩ := List.mem_map.mp hm
      obtain ⟨i0, hi0, e0⟩ := List.getElem_of_mem h0
      have h00 : L[i0]? = some p0 := by rw [List.getElem?_eq_getElem hi0, e0]
      obtain ⟨c', a1, a2, a3⟩ := hre i0 p0 h00 hk0
      refine hno (c' - c) i0 (by omega) (by rw [sj, show c + (c' - c) = c' by omega]; exact a3) ?_
      rw [← hk0]; exact hat i0 p0 h00
theorem look_tup (W : SetT P w s.heap a L es ep t) (T : TbOk t (L.map fun p => hT P w p.2)) {x : Addr} {k : List Key} (hx : kT P w s.heap k x) (hu : A.units < cLine) {Q : SetFound → Shared → Prop} (hin : k ∈ L.map (·.2) → Q (.there none) s)
    (hout : ∀ K, k ∉ L.map (·.2) → way t.mask (hT P w k) K ∉ t.place.toList → (∀ c, c < K → way t.mask (hT P w k) c ∈ t.place.toList) → Q (.free (way t.mask (hT P w k) K) false) s) : wpAny (model P w) A (setSearch a (.ref x) (hT P w k) true) Q E s := by
  have room := T.2
  obtain ⟨K, k1, k2, k3⟩ := T.1.first (by omega) (hT P w k)
  have big : 10 * SetTable.turns t.mask ≤ 1420 := by
    unfold SetTable.turns
    rcases T.1.mok with e | e | e <;> omega
  unfold setSearch
  refine find_tup W T hx hu k1 k2 k3 hin (fun hn => hout K hn k2 k3) 100000 0 none rfl (Nat.zero_le _) (by omega) ?_
  intro i p hp hk
  have hi : (L.map fun p => hT P w p.2)[i]? = some (hT P w k) := by rw [List.getElem?_map, hp, ← hk]; rfl
  have il : i < t.place.toList.length := by
    rw [Array.length_toList, T.1.sz, List.length_map]
    exact (List.getElem?_eq_some_iff.mp hp).1
  obtain ⟨c, hc, e⟩ := T.1.before k2 hi (List.getElem?_eq_getElem il)
  exact ⟨c, Nat.zero_le _, hc, by rw [List.getElem?_eq_getElem il, e]⟩
end
end Q

set_option Elab.async false
set_option linter.all false
set_option maxRecDepth 100000
set_option maxHeartbeats 2000000
namespace Q
open PySem PySem.Spec PyProof.Rows L2
theorem pick_all {α : Type} (L : List α) : (List.range L.length).filterMap (fun i => L[i]?) = L := by
  have key : ∀ n, n ≤ L.length → (List.range n).filterMap (fun i => L[i]?) = L.take n := by
    intro n
    induction n with
    | zero => exact fun _ => rfl
    | succ n ih =>
      intro hn
      rw [List.range_succ, List.filterMap_append, ih (by omega), List.take_succ]
      congr 1
  rw [key _ (Nat.le_refl _), List.take_length]
section
variable {P : Program} {w : World} {A : Around} {E : Value → Shared → Prop} {s : Shared} {a : Addr}
theorem kT_same {h h' : Heap} {k : List Key} {v : Value} {o : Obj} {es : Array (Int × Value)} {ep : Nat} {t : SetTable} (ho : h.get? a = some o) (hd : o.data = .set es ep t) (sb : Heap.SameBut a h h') (x : okT P w h k v) : okT P w h' k v := by
  obtain ⟨b, rfl, o', its, n, ho', hc, hd', hi⟩ := x
  refine ⟨b, rfl, o', its, n, ?_, hc, hd', hi⟩
  by_cases e : b = a
  · subst e
    rw [ho] at ho'
    cases ho'
    rw [hd] at hd'
    cases hd'
  · exact (sb.2 b e).trans ho'
theorem kT_stay {h h' : Heap} {k : List Key} {v : Value} (st : ∀ b o, h.get? b = some o → h'.get? b = some o) (x : okT P w h k v) : okT P w h' k v := by
  obtain ⟨b, rfl, o', its, n, ho', r⟩ := x
  exact ⟨b, rfl, o', its, n, st _ _ ho', r⟩
/-- rows in another order -/
theorem rows_order {κ : Type} {hash : κ → Int} (L : List (Value × κ)) (es : Array (Int × Value)) (order : Array Nat) (hr : es.toList = L.map fun p => (hash p.2, p.1)) (hp : order.toList.Perm (List.range L.length)) :
    ∃ L2 : List (Value × κ), (order.filterMap (es[·]?)).toList = L2.map (fun p => (hash p.2, p.1)) ∧ L2.Perm L ∧ (L2.map fun p => hash p.2) = order.toList.map fun i => (es.map (·.1)).getD i 0 := by
  have sz : es.size = L.length := by simpa using congrArg List.length hr
  have ent : ∀ i : Nat, es[i]? = (L[i]?).map fun p => (hash p.2, p.1) := fun i => by rw [← Array.getElem?_toList, hr, List.getElem?_map]
  refine ⟨order.toList.filterMap (fun i => L[i]?), ?_, ?_, ?_⟩
  · rw [Array.toList_filterMap, List.map_filterMap]
    congr 1
    funext i
    exact ent i
  · have h1 := hp.filterMap (fun i => L[i]?)
    rw [pick_all] at h1
    exact h1
  · have hl : ∀ i ∈ order.toList, i < L.length := fun i hi => List.mem_range.mp (hp.mem_iff.mp hi)
    generalize order.toList = l at hl
    induction l with
    | nil => rfl
    | cons i l ih =>
      have li := hl i (.head _)
      rw [List.filterMap_cons_some (List.getElem?_eq_getElem li), List.map_cons, List.map_cons, ih fun j hj => hl j (.tail _ hj)]
      congr 1
      have e5 : (es.map (·.1))[i]? = some (hash (L[i]).2) := by rw [Array.getElem?_map, ent, List.getElem?_eq_getElem li]; rfl
      simp [Array.getD_eq_getD_getElem?, e5]
variable {L : List (Value × List Key)} {es : Array (Int × Value)} {ep : Nat} {t : SetTable}
/-- a larger table -/
theorem grow_tup {o : Obj} (ho : s.heap.get? a = some o) (hx : o.ExactSet) (hd : o.data = .set es ep t) (hr : es.toList = L.map fun p => (hT P w p.2, p.1)) (psz : t.place.size = es.size) (dm : t.dummies = #[]) (fl : es.size ≤ t.mask) (nd : (L.map (·.2)).Nodup) (el : ∀ p ∈ L, okT P w s.heap p.2 p.1)
    (ld : w.params.followText "set-order" = true ∨ t.led = true) (few : L.length < 64) {wanted M : Nat} (hw : SetTable.sizeAbove wanted - 1 = M) (hM : MaskOk M) (h128 : SetTable.sizeAbove wanted ≤ 128) (room : L.length * 5 < M * 3) {Q : Unit → Shared → Prop}
    (hQ : ∀ h' L' es' ep' t', Heap.SameBut a s.heap h' → SetT P w h' a L' es' ep' t' → TbOk t' (L'.map fun p => hT P w p.2) → L'.Perm L → Q () { s with heap := h' }) : wpAny (model P w) A (setRelay a wanted) Q E s := by
  have sz : es.size = L.length := by simpa using congrArg List.length hr
  have ft : t.fits es.size = true := by
    unfold SetTable.fits SetTable.fill
    rw [dm, Bool.and_eq_true, beq_iff_eq, decide_eq_true_eq]
    exact ⟨psz, by show t.place.size + 0 ≤ t.mask; omega⟩
  obtain ⟨t', order, e, pm, T, em, el', _, ed⟩ := relaid_ok t (hs := es.map (·.1)) (wanted := wanted) hw hM (by rw [Array.size_map, sz]; omega)
  rw [Array.size_map, sz] at pm
  obtain ⟨L2, r1, r2, r3⟩ := rows_order L es order hr pm
  rw [← r3] at T
  have s2 : (order.filterMap (es[·]?)).size = L2.length := by rw [← Array.length_toList, r1, List.length_map]
  have s3 : (order.filterMap (es[·]?)).size = es.size := by rw [s2, r2.length_eq, sz]
  rw [setRelay_eq]
  refine wpAny_bind (wpAny_setState_of ho hd ft (wp_if_neg (by rw [sizeLine_eq]; omega) ?_))
  try refine wpAny_bind (wpAny_pure ?_)
  rw [e]
  refine wpAny_bind (wp_if_neg (by rw [s3]; simp) ?_)
  try refine wpAny_bind (wpAny_pure ?_)
  refine wpAny_pure (wpAny_storeSet_of ho hd ?_ (by rw [s3, sz, sizeLine_eq]; omega))
  have sb : Heap.SameBut a s.heap (s.heap.update a (Obj.putSet (order.filterMap (es[·]?)) t')) := Heap.SameBut.update ..
  refine hQ _ L2 _ (ep + 1) t' sb ⟨⟨_, store_at ho hd, ⟨hx.1, hx.2.1, hx.2.2⟩, rfl⟩, r1, (r2.map _).nodup_iff.mpr nd, fun p hp => kT_same ho hd sb (el p (r2.mem_iff.mp hp)), by rw [r2.length_eq]; exact few, ?_, T.ris, by rw [el']; exact ld⟩ ⟨T, ?_⟩ r2
  · unfold SetTable.fits SetTable.fill
    have z := T.sz
    rw [List.length_map] at z
    rw [ed, Bool.and_eq_true, beq_iff_eq, decide_eq_true_eq]
    refine ⟨by rw [z, s2], ?_⟩
    show t'.place.size + 0 ≤ t'.mask
    rw [z, em, r2.length_eq]; omega
  · rw [List.length_map, r2.length_eq, em]; exact room
theorem add_tup {x : Value} {k : List Key} {Q : Bool → Shared → Prop} (hu : A.units < cLine) (W : SetT P w s.heap a L es ep t) (T : TbOk t (L.map fun p => hT P w p.2)) (hk : okT P w s.heap k x) (few : L.length + 1 < 64)
    (hQ : ∀ b h' L' es' ep' t', Heap.SameBut a s.heap h' → SetT P w h' a L' es' ep' t' → TbOk t' (L'.map fun p => hT P w p.2) → (k ∈ L.map (·.2) → L' = L) → (k ∉ L.map (·.2) → L'.Perm ((x, k) :: L)) → Q b { s with heap := h' }) :
    wpAny (model P w) A (setAddHashed a x (hT P w k)) Q E s := by
  obtain ⟨o, ho, hx, hd⟩ := W.ob
  obtain ⟨b0, rfl, hb0⟩ := id hk
  have room := T.2
  rw [List.length_map] at room
  have sz := W.size
  unfold setAddHashed
  refine wpAny_holding ?_
  rw [show (100000 : Nat) = 99999 + 1 from rfl, setAddHashedIn_succ]
  refine wpAny_bind (wpAny_setState_of ho hd W.fits (wp_if_neg (by simp [byScan, Value.scannable]) ?_))
  try refine wpAny_bind (wpAny_pure ?_)
  refine wpAny_bind (look_tup W T hb0 hu (fun hm => wpAny_pure (hQ false s.heap L es ep t (.refl a s.heap) W T (fun _ => rfl) fun z => absurd hm z)) fun K hm hK hb => ?_)
  refine wpAny_bind (wpAny_setState_of ho hd W.fits ?_)
  obtain ⟨q1, q2, q3, q4, q5, q6, q7, q8, q9⟩ := T.1.put hK hb
  dsimp only
  generalize t.put (way t.mask (hT P w k) K) = pt at q1 q3 q4 q5 q6 q7 q8 q9 ⊢
  obtain ⟨t1, p⟩ := pt
  dsimp only at q1 q3 q4 q5 q6 q7 q8 q9 ⊢
  subst q1
  have hin : (SetTable.insertAt es (SetTable.below t.place (way t.mask (hT P w k) K)) (hT P w k, Value.ref b0)).toList = (L.take (SetTable.below t.place (way t.mask (hT P w k) K)) ++ (Value.ref b0, k) :: L.drop (SetTable.below t.place (way t.mask (hT P w k) K))).map fun p => (hT P w p.2, p.1) := by
    rw [SetTable.toList_insertAt, W.rows, List.map_append, List.map_cons, List.map_take, List.map_drop]
  generalize SetTable.below t.place (way t.mask (hT P w k) K) = p at q2 q3 hin ⊢
  have hs1 : (L.take p ++ (Value.ref b0, k) :: L.drop p).map (fun p => hT P w p.2) = (L.map fun p => hT P w p.2).take p ++ hT P w k :: (L.map fun p => hT P w p.2).drop p := by rw [List.map_append, List.map_cons, List.map_take, List.map_drop]
  rw [← hs1] at q3
  have pm : (L.take p ++ (Value.ref b0, k) :: L.drop p).Perm ((Value.ref b0, k) :: L) := put_perm L p _
  generalize SetTable.insertAt es p (hT P w k, Value.ref b0) = es1 at hin ⊢
  generalize L.take p ++ (Value.ref b0, k) :: L.drop p = L1 at pm q3 hin
  have len1 : L1.length = L.length + 1 := pm.length_eq
  have sz1 : es1.size = L1.length := by simpa using congrArg List.length hin
  have nd1 : (L1.map (·.2)).Nodup := (pm.map _).nodup_iff.mpr (List.nodup_cons.mpr ⟨hm, W.nd⟩)
  have el0 : ∀ p ∈ L1, okT P w s.heap p.2 p.1 := fun p hp => by
    rcases List.mem_cons.mp (pm.mem_iff.mp hp) with rfl | z
    · exact hk
    · exact W.el p z
  -- whichever the flag is
  have fin : ∀ t2 : SetTable, t2.place = t1.place → t2.dummies = t1.dummies → t2.mask = t1.mask → t2.led = t1.led → TabOk t2 (L1.map fun p => hT P w p.2) →
      wpAny (model P w) A (do
        storeSet a es1 t2
        if (!false && t2.tooFull) = true then setRelay a (SetTable.grown (es.size + 1))
        return true) Q E s := by
    intro t2 e1 e2 e3 e4 T2
    refine wpAny_bind (wpAny_storeSet_of ho hd ?_ (by rw [sz1, len1, sizeLine_eq]; omega))
    have sb : Heap.SameBut a s.heap (s.heap.update a (Obj.putSet es1 t2)) := Heap.SameBut.update ..
    have ho1 := store_at (es' := es1) (t' := t2) ho hd
    generalize s.heap.update a (Obj.putSet es1 t2) = h1 at sb ho1 ⊢
    have el1 : ∀ p ∈ L1, okT P w h1 p.2 p.1 := fun p hp => kT_same ho hd sb (el0 p hp)
    have ld1 : w.params.followText "set-order" = true ∨ t2.led = true := by rw [e4, q5]; exact W.led
    have psz : t2.place.size = es1.size := by
      have z := T2.sz
      rw [List.length_map] at z
      rw [z, sz1]
    have full : t2.tooFull = t1.tooFull := by unfold SetTable.tooFull SetTable.fill; rw [e1, e2, e3]
    have few1 : L1.length < 64 := by rw [len1]; exact few
    by_cases hf : t2.tooFull = true
    · have hfull : (L.length + 1) * 5 ≥ t.mask * 3 := by
        have h := hf
        rw [full] at h
        unfold SetTable.tooFull at h
        rw [decide_eq_true_eq, q9, List.length_map, q4] at h
        exact h
      have two : (t.mask = 7 ∧ L.length = 4) ∨ (t.mask = 31 ∧ L.length = 18) := by
        rcases T.1.mok with e | e | e <;> rw [e] at hfull room
        · exact .inl ⟨e, by omega⟩
        · exact .inr ⟨e, by omega⟩
        · omega
      have go : ∀ M, SetTable.sizeAbove (SetTable.grown (L.length + 1)) - 1 = M → MaskOk M → SetTable.sizeAbove (SetTable.grown (L.length + 1)) ≤ 128 → (L.length + 1) * 5 < M * 3 →
          wpAny (model P w) A (setRelay a (SetTable.grown (L.length + 1))) (fun _ s' => wpAny (model P w) A (pure true) Q E s') E { s with heap := h1 } := fun M m1 m2 m3 m4 =>
        grow_tup (s := { s with heap := h1 }) ho1 ⟨hx.1, hx.2.1, hx.2.2⟩ rfl hin psz (by rw [e2]; exact q3.dm) (by rw [sz1, len1, e3, q4]; rcases two with ⟨y1, y2⟩ | ⟨y1, y2⟩ <;> omega) nd1 el1 ld1 few1 m1 m2 m3 (by rw [len1]; exact m4)
          fun h2 L2 es2 ep2 t2 sb2 W2 T2 pm2 => wpAny_pure (hQ true h2 L2 es2 ep2 t2 (sb.trans sb2) W2 T2 (fun z => absurd z hm) fun _ => pm2.trans pm)
      rw [sz]
      first
        | refine wp_if_pos (by simp [hf]) (wpAny_bind ?_)
        | refine wpAny_bind (wp_if_pos (by simp [hf]) ?_)
      rcases two with ⟨_, e2⟩ | ⟨_, e2⟩
      · exact go 31 (by rw [e2, size_20]) (.inr (.inl rfl)) (by rw [e2, size_20]; decide) (by omega)
      · exact go 127 (by rw [e2, size_76]) (.inr (.inr rfl)) (by rw [e2, size_76]; decide) (by omega)
    · have rm : L1.length * 5 < t2.mask * 3 := by
        have h := hf
        rw [full] at h
        unfold SetTable.tooFull at h
        rw [decide_eq_true_eq, q9, List.length_map] at h
        rw [len1, e3]; omega
      have ft : t2.fits es1.size = true := by
        unfold SetTable.fits SetTable.fill
        rw [e2, q3.dm, Bool.and_eq_true, beq_iff_eq, decide_eq_true_eq]
        refine ⟨psz, ?_⟩
        show t2.place.size + 0 ≤ t2.mask
        rw [psz, sz1]; omega
      have ans := hQ true h1 L1 es1 (ep + 1) t2 sb ⟨⟨_, ho1, ⟨hx.1, hx.2.1, hx.2.2⟩, rfl⟩, hin, nd1, el1, few1, ft, T2.ris, ld1⟩ ⟨T2, by rw [List.length_map]; exact rm⟩ (fun z => absurd z hm) fun _ => pm
      first
        | exact wp_if_neg (by simp [hf]) (wpAny_pure ans)
        | exact wpAny_bind (wp_if_neg (by simp [hf]) (wpAny_pure (wpAny_pure ans)))
  by_cases pl : t1.plain = true
  · first
      | refine wpAny_bind (wp_if_pos pl (byval_tup hb0 fun c => ?_))
      | refine wp_if_pos pl (wpAny_bind (byval_tup hb0 fun c => ?_))
    cases c with
    | true => exact fin t1 rfl rfl rfl rfl q3
    | false => exact fin { t1 with plain := false } rfl rfl rfl rfl ⟨q3.ris, q3.dm, q3.sz, q3.mok, q3.bd, q3.reach⟩
  · first
      | refine wpAny_bind (wp_if_neg pl (wpAny_pure ?_))
      | refine wp_if_neg pl (wpAny_bind (wpAny_pure ?_))
    exact fin t1 rfl rfl rfl rfl q3
def kdT (P : Program) (w : World) : SetKd P w (List Key) where
  hash := hT P w
  ok := okT P w
  more := TbOk
  cost := fun k => k.length + 1
  keep := kT_same
  stay := kT_stay
  one := fun ⟨b, e, h⟩ ⟨c, e', h'⟩ => by
    subst e
    cases e'
    exact h.inj h'
  pyh := fun hu ⟨b, e, h⟩ q => by
    subst e
    exact wpAny_pyHash_tuple hu h q
  fresh := fun led => ⟨⟨List.Pairwise.nil, rfl, rfl, .inl rfl, fun x hx => absurd hx List.not_mem_nil, fun i h j hi => by cases (show (none : Option Int) = some h from hi)⟩, by show 0 * 5 < 7 * 3; decide⟩
  add := fun hu W T hk few hQ => add_tup hu W T hk few hQ
end
end Q

set_option Elab.async false
set_option linter.all false
set_option maxRecDepth 100000
set_option maxHeartbeats 4000000
namespace Q
open PySem PySem.Spec PyProof.Rows L2
section
variable {P : Program} {w : World} {A : Around} {E : Value → Shared → Prop} {s : Shared} {κ : Type} {kd : SetKd P w κ}
/-- a set of the kind, with these rows -/
def SetIs (kd : SetKd P w κ) (h : Heap) (a : Addr) (L : List (Value × κ)) : Prop := ∃ es ep t, SetW w kd.hash kd.ok h a L es ep t ∧ kd.more t (L.map fun p => kd.hash p.2)
/-- what the set has got of the first i things -/
structure Took (ks : List (Value × κ)) (i : Nat) (L : List (Value × κ)) : Prop where
  sub : ∀ p ∈ L, p ∈ ks.take i
  all : ∀ p ∈ ks.take i, p.2 ∈ L.map (·.2)
  len : L.length ≤ i
theorem Took.zero (ks : List (Value × κ)) : Took ks 0 [] := ⟨fun p h => absurd h List.not_mem_nil, fun p h => by simp at h, Nat.le_refl _⟩
theorem Took.next {ks L L' : List (Value × κ)} {i : Nat} {x : Value × κ} (g : Took ks i L) (h : ks[i]? = some x) (h1 : x.2 ∈ L.map (·.2) → L' = L) (h2 : x.2 ∉ L.map (·.2) → L'.Perm (x :: L)) : Took ks (i + 1) L' := by
  have tk : ks.take (i + 1) = ks.take i ++ [x] := by rw [List.take_succ, h]; rfl
  rcases Classical.em (x.2 ∈ L.map (·.2)) with c | c
  · rw [h1 c]
    refine ⟨fun p hp => by rw [tk]; exact List.mem_append_left _ (g.sub p hp), fun p hp => ?_, Nat.le_succ_of_le g.len⟩
    rw [tk] at hp
    rcases List.mem_append.mp hp with z | z
    · exact g.all p z
    · rw [List.mem_singleton.mp z]; exact c
  · have pm := h2 c
    refine ⟨fun p hp => ?_, fun p hp => ?_, by rw [pm.length_eq]; exact Nat.succ_le_succ g.len⟩
    · rw [tk]
      rcases List.mem_cons.mp (pm.mem_iff.mp hp) with z | z
      · rw [z]; exact List.mem_append_right _ (.head _)
      · exact List.mem_append_left _ (g.sub p z)
    · rw [tk] at hp
      refine (pm.map _).mem_iff.mpr ?_
      rcases List.mem_append.mp hp with z | z
      · exact .tail _ (g.all p z)
      · rw [List.mem_singleton.mp z]; exact .head _
theorem SetIs.stay {h h' : Heap} {a : Addr} {L : List (Value × κ)} (R : SetIs kd h a L) (st : ∀ o, h.get? a = some o → h'.get? a = some o) (el : ∀ p ∈ L, kd.ok h' p.2 p.1) : SetIs kd h' a L := by
  obtain ⟨es, ep, t, W, m⟩ := R
  obtain ⟨o, ho, r⟩ := W.ob
  exact ⟨es, ep, t, ⟨⟨o, st o ho, r⟩, W.rows, W.nd, el, W.few, W.fits, W.ris, W.led⟩, m⟩
theorem setIs_new {h : Heap} {a : Addr} (ho : h.get? a = some { cls := .type "set", dict := none, data := .set #[] 0 (.fresh 0 0 (!w.params.followText "set-order")) }) : SetIs kd h a [] := by
  refine ⟨#[], 0, _, ⟨⟨_, ho, ⟨rfl, rfl, rfl⟩, rfl⟩, rfl, List.nodup_nil, fun p hp => absurd hp List.not_mem_nil, by show 0 < 64; decide, rfl, List.Pairwise.nil, ?_⟩, kd.fresh _⟩
  show _ ∨ (!w.params.followText "set-order") = true
  cases w.params.followText "set-order"
  · exact .inr rfl
  · exact .inl rfl
/-- the loop of update -/
theorem take_all {I : Addr} {fp wr : List Addr} {G : Array GenState → Array GenState → Prop} {n : Nat} {Pv : Nat → Value → Prop} {St : Nat → Shared → Prop} {R : Result → Shared → Prop} (W : WalksS P w A.in1 I fp wr G n Pv St) (S : Addr) (hSf : S ∉ fp) (ks : List (Value × κ)) (hn : n = ks.length) (few : ks.length < 64)
    (hval : ∀ i v, Pv i v → ∃ p, ks[i]? = some p ∧ v = p.1) (h0 : Heap) (hk : ∀ p ∈ ks, kd.ok h0 p.2 p.1) (hS0 : h0.get? S = none) (hw0 : ∀ b ∈ wr, h0.get? b = none) (hu : A.in1.units < cLine) :
    ∀ (d i : Nat) (s : Shared), n - i = d → i ≤ n → St i s → (∀ b o, h0.get? b = some o → s.heap.get? b = some o) → (∃ L, SetIs kd s.heap S L ∧ Took ks i L) →
      (∀ s' L, Moved (S :: wr) G s s' → SetIs kd s'.heap S L → Took ks n L → (∀ b o, h0.get? b = some o → s'.heap.get? b = some o) → R (.ok (.ret .none)) s') →
      codeAny (model P w) A (.builtin "set.update.loop" ⟨[.ref S, .ref I], []⟩) R s := by
  have nSw : S ∉ wr := fun h => hSf (W.sub _ h)
  have up : ∀ b ∈ wr, b ∈ S :: wr := fun b hb => .tail _ hb
  intro d
  induction d with
  | zero =>
    intro i s hd hi hst hkp ⟨L, RS, g⟩ hR
    obtain rfl : i = n := by omega
    refine codeAny_builtin F.entry_set_update_loop ?_
    rw [Around.under_plainId F.plain_set_update_loop _]
    show wpAny _ A.in1 (pyNext (.ref I) >>= _) _ _ s
    refine wpAny_bind (W.done s _ _ hst fun s' hm => ?_)
    have kp' : ∀ b o, h0.get? b = some o → s'.heap.get? b = some o := fun b o e => hm.heap b o (fun hb => by rw [hw0 b hb] at e; cases e) (hkp b o e)
    show wpAny _ A.in1 (ret Value.none) _ _ s'
    exact wpAny_pure (hR s' L (hm.mono up) (RS.stay (fun o e => hm.heap S o nSw e) fun p hp => kd.stay kp' (hk p (List.mem_of_mem_take (g.sub p hp)))) g kp')
  | succ d ih =>
    intro i s hd hi hst hkp ⟨L, RS, g⟩ hR
    have lt : i < n := by omega
    refine codeAny_builtin F.entry_set_update_loop ?_
    rw [Around.under_plainId F.plain_set_update_loop _]
    show wpAny _ A.in1 (pyNext (.ref I) >>= _) _ _ s
    refine wpAny_bind (W.item i s _ _ lt hst fun v s' hP hst' hm => ?_)
    obtain ⟨p, hp, rfl⟩ := hval i v hP
    have kp' : ∀ b o, h0.get? b = some o → s'.heap.get? b = some o := fun b o e => hm.heap b o (fun hb => by rw [hw0 b hb] at e; cases e) (hkp b o e)
    obtain ⟨es, ep, t, W', mo⟩ := RS.stay (h' := s'.heap) (fun o e => hm.heap S o nSw e) fun p hp => kd.stay kp' (hk p (List.mem_of_mem_take (g.sub p hp)))
    have hx : kd.ok s'.heap p.2 p.1 := kd.stay kp' (hk p (List.mem_of_getElem? hp))
    show wpAny _ A.in1 (holding [p.1] (setAdd S p.1) >>= _) _ _ s'
    refine wpAny_bind (wpAny_holding ?_)
    unfold setAdd
    refine wpAny_holding (wpAny_bind (kd.pyh hu hx ?_))
    refine kd.add (s := { s' with toks := s'.toks + kd.cost p.2 }) hu W' mo hx (by have := g.len; omega) fun b h' L' es' ep' t' sb W2 mo2 c1 c2 => ?_
    have kp2 : ∀ b o, h0.get? b = some o → h'.get? b = some o := fun b o e => (sb.2 b (fun z => by rw [z, hS0] at e; cases e)).trans (kp' b o e)
    refine wpAny_pure ⟨plainId_quiet F.plain_set_update_loop _, ih (i + 1) _ (by omega) lt (W.frame _ s' _ _ hst' (Nat.le_add_right _ _) fun b hb o e => ?_) kp2 ⟨L', ⟨es', ep', t', W2, mo2⟩, g.next hp c1 c2⟩ fun s2 L2 hm2 RS2 g2 kp3 => ?_⟩
    · rw [sb.2 b (fun z : b = S => hSf (z ▸ hb))]; exact e
    · refine hR s2 L2 (Moved.trans W.gtrans ((hm.mono up).then_heap (Nat.le_add_right _ _) fun b o hb e => ?_) hm2) RS2 g2 kp3
      rw [sb.2 b (fun z : b = S => hb (z ▸ List.mem_cons_self))]; exact e
/-- set(xs) -/
theorem set_list {l : Addr} {items : Array Value} (ks : List (Value × κ)) {Q : Value → Shared → Prop} (hh : A.handled = none) (hl : s.heap.IsList l items) (hit : items.toList = ks.map (·.1)) (hk : ∀ p ∈ ks, kd.ok s.heap p.2 p.1) (few : ks.length < 64) (hu : A.units + 3 < cLine)
    (h : ∀ (h' : Heap) (tk : Nat) L, SetIs kd h' s.heap.objs.size L → Took ks ks.length L → (∀ b o, s.heap.get? b = some o → h'.get? b = some o) → Q (.ref s.heap.objs.size) { s with heap := h', toks := tk }) : wpAny (model P w) A (PySem.call (.type "set") [.ref l]) Q E s := by
  have isz : items.size = ks.length := by simpa using congrArg List.length hit
  let S0 : Obj := { cls := .type "set", dict := none, data := .set #[] 0 (.fresh 0 0 (!w.params.followText "set-order")) }
  let s1 : Shared := { s with heap := s.heap.push S0 }
  obtain ⟨c, tl, hmro⟩ := F.called_set.mro
  have made := F.called_set.made
  have subt := F.called_set.sub
  refine wpAny_call (codeAny_of_tree ?_)
  show wpAny _ _ (callAny (.type "set") _) _ _ _
  refine wpAny_pure ⟨Code.quiet_builtin _ (by decide +kernel), codeAny_builtin F.entry_type_call ?_⟩
  rw [Around.under_plain (weight_type_call_type "set" [.ref l] []) rfl]
  have nt := F.called_set.notType
  have cc := F.called_set.canCreate
  have ct := F.typeCall_set_1 (.ref l)
  repeat (any_goals (first | assumption | wp_step))
  refine codeAny_mono (code_set_led1 (.ref l) (E := E) (Q₁ := fun obj s₁ => obj = .ref s.heap.objs.size ∧ s₁ = s1) ⟨rfl, rfl⟩) ?_
  rintro (e | fl) s₁ hr
  · exact hr
  · match fl, hr with
    | .next, hr => exact hr.elim
    | .brk, hr => exact hr.elim
    | .cont, hr => exact hr.elim
    | .ret obj, ⟨ho, hs⟩ =>
      subst ho hs
      have g0 : (s.heap.push S0).get? s.heap.objs.size = some S0 := Heap.get?_push_size _ rfl
      have ty : Shared.TypeIs s1 (.ref s.heap.objs.size) "set" := ⟨_, g0, rfl⟩
      have li := F.called_set.init.lookup
      have bi := F.called_set.init.bind (.ref s.heap.objs.size)
      repeat (any_goals (first | assumption | wp_step))
      refine codeAny_mono (codeAny_call_builtin (R := wants (fun r s₂ => r = .none ∧ ∃ h' tk L, s₂ = { s with heap := h', toks := tk } ∧ SetIs kd h' s.heap.objs.size L ∧ Took ks ks.length L ∧ (∀ b o, s.heap.get? b = some o → h'.get? b = some o)) E) F.called_set.init.plain F.entry_set_init (check_set_init_1 ty ?_)) ?_
      · obtain ⟨⟨oc, od, odt, osl⟩, hol, hcl, nl, hdl⟩ := hl
        cases (show oc = .type "list" from hcl)
        cases (show odt = .seq items nl from hdl)
        have hol' := Heap.get?_push_of_some S0 hol
        have u1 := F.sub_list_set
        have u2 := F.sub_list_frozenset
        have u3 : (Value.type "list" == Value.type "dict") = false := by decide
        have hl1 : (s.heap.push S0).IsList l items := ⟨_, hol', rfl, nl, rfl⟩
        unfold Builtin.«set.__init__» noKeywords Builtin.Frozenset.updateFrom
        generalize hPI : pyIter = PI
        wp_walk
        subst hPI
        refine wpAny_pyIter_list hl1 (wpAny_bind (wpAny_runValue ?_))
        have lS : l < s.heap.objs.size := Heap.lt_size hol
        have h3 : A.in1.in1.in1.handled = none := hh
        have z1 : (s.heap.push S0).objs.size = s.heap.objs.size + 1 := Heap.size_push ..
        have nI : l ≠ (s.heap.push S0).objs.size := by rw [z1]; exact Nat.ne_of_lt (Nat.lt_succ_of_lt lS)
        have nf : s.heap.objs.size ∉ [(s.heap.push S0).objs.size, l] := by
          rw [z1]
          simp only [List.mem_cons, List.not_mem_nil, or_false, not_or]
          exact ⟨Nat.ne_of_lt (Nat.lt_succ_self _), Nat.ne_of_gt lS⟩
        have hv : ∀ (i : Nat) (v : Value), items[i]? = some v → ∃ p, ks[i]? = some p ∧ v = p.1 := fun i v hv => by
          have q : items.toList[i]? = some v := by rw [Array.getElem?_toList]; exact hv
          rw [hit, List.getElem?_map] at q
          obtain ⟨p, q1, q2⟩ := Option.map_eq_some_iff.mp q
          exact ⟨p, q1, q2.symm⟩
        have none_of : ∀ b, s.heap.objs.size ≤ b → s.heap.get? b = none := fun b hb => by
          cases q : s.heap.get? b with
          | none => rfl
          | some o => exact absurd (Nat.lt_of_lt_of_le (Heap.lt_size q) hb) (Nat.lt_irrefl _)
        refine take_all (kd := kd) ((Walks.list h3 _ l nI items).toS) s.heap.objs.size nf ks isz few hv s.heap hk (none_of _ (Nat.le_refl _)) (fun b hb => none_of b (by rw [List.mem_singleton.mp hb, z1]; exact Nat.le_succ _)) hu (items.size - 0) 0 _ (by omega) (Nat.zero_le _)
          ⟨⟨_, Heap.get?_push_size _ rfl, rfl, rfl⟩, hl1.push _⟩ (fun b o e => Heap.get?_push_of_some _ (Heap.get?_push_of_some _ e)) ⟨[], setIs_new (Heap.get?_push_of_some _ g0), Took.zero ks⟩ ?_
        rintro ⟨h', g2, d', tk', os'⟩ L hm RS g' kp
        cases (show g2 = s.gens from hm.gens)
        cases (show d' = s.drawn from hm.drawn)
        cases (show os' = s.os from hm.os)
        rw [isz] at g'
        refine wpAny_pure ?_
        show wpAny _ _ (ret Value.none) _ _ _
        exact wpAny_pure ⟨rfl, h', tk', L, rfl, RS, g', kp⟩
      · rintro (e | fl₂) s₂ hr₂
        · exact hr₂
        · match fl₂, hr₂ with
          | .next, hr => exact hr.elim
          | .brk, hr => exact hr.elim
          | .cont, hr => exact hr.elim
          | .ret r, ⟨hr, h', tk, L, hs, RS, g', kp⟩ =>
            subst hr hs
            repeat (any_goals (first | assumption | wp_step))
            exact h _ _ _ RS g' kp
end
end Q

set_option Elab.async false
set_option linter.all false
set_option maxRecDepth 100000
set_option maxHeartbeats 2000000
namespace Q
open PySem PySem.Spec PyProof.Rows L2
/-! ### sorted and without repetitions -/
def encK : Key → PyData
  | .inl i => .int i
  | .inr s => .str s
def encT (k : List Key) : PyData := .tuple (k.map encK)
def tokK : Key → Int ⊕ List Nat
  | .inl i => .inl i
  | .inr s => .inr s.cps.toList
theorem toks_encK (k : Key) : PySem.W.keyToks (encK k) = [tokK k] := by
  cases k
  · show PySem.W.keyToks (.int _) = _
    simp [PySem.W.keyToks, tokK]
  · show PySem.W.keyToks (.str _) = _
    simp [PySem.W.keyToks, tokK]
theorem tokK_inj {a b : Key} (h : tokK a = tokK b) : a = b := by
  cases a <;> cases b <;> simp only [tokK] at h
  · cases h; rfl
  · cases h
  · cases h
  · injection h with h
    rw [PySem.W.str_of_cps h]
theorem encK_inj {a b : Key} (h : PySem.W.keyToks (encK a) = PySem.W.keyToks (encK b)) : a = b := by
  rw [toks_encK, toks_encK] at h
  injection h with h
  exact tokK_inj h
theorem toksAll_cons (x : PyData) (xs : List PyData) : PySem.W.keyToksAll (x :: xs) = Sum.inl 1 :: (PySem.W.keyToks x ++ PySem.W.keyToksAll xs) := PySem.W.toks_all_cons x xs
theorem toksAll_nil : PySem.W.keyToksAll [] = [Sum.inl 0] := by rw [PySem.W.keyToksAll]
theorem encTl_inj : ∀ {a b : List Key}, PySem.W.keyToksAll (a.map encK) = PySem.W.keyToksAll (b.map encK) → a = b
  | [], [], _ => rfl
  | [], b :: bs, h => by
    rw [List.map_cons, toksAll_cons, List.map_nil, toksAll_nil] at h
    injection h with h1 h2
    cases h1
  | a :: as, [], h => by
    rw [List.map_cons, toksAll_cons, List.map_nil, toksAll_nil] at h
    injection h with h1 h2
    cases h1
  | a :: as, b :: bs, h => by
    rw [List.map_cons, List.map_cons, toksAll_cons, toksAll_cons, toks_encK, toks_encK] at h
    injection h with _ h
    injection h with h1 h2
    rw [tokK_inj h1, encTl_inj h2]
theorem encT_inj {a b : List Key} (h : PySem.W.keyToks (encT a) = PySem.W.keyToks (encT b)) : a = b := by
  unfold encT at h
  rw [PySem.W.keyToks, PySem.W.keyToks] at h
  exact encTl_inj h
section
variable {κ : Type} [DecidableEq κ] {enc : κ → PyData}
def uniq : List κ → List κ
  | [] => []
  | x :: xs => if x ∈ xs then uniq xs else x :: uniq xs
theorem mem_uniq {k : κ} : ∀ {l : List κ}, k ∈ uniq l ↔ k ∈ l
  | [] => Iff.rfl
  | x :: xs => by
    unfold uniq
    split
    · rename_i h
      rw [mem_uniq, List.mem_cons]
      exact ⟨.inr, fun z => z.elim (fun e => e ▸ h) id⟩
    · rw [List.mem_cons, List.mem_cons, mem_uniq]
theorem nodup_uniq : ∀ l : List κ, (uniq l).Nodup
  | [] => List.nodup_nil
  | x :: xs => by
    unfold uniq
    split
    · exact nodup_uniq xs
    · rename_i h
      exact List.nodup_cons.mpr ⟨fun z => h (mem_uniq.mp z), nodup_uniq xs⟩
def leE (enc : κ → PyData) (a b : κ) : Bool := !PySem.W.dataLt (enc b) (enc a)
theorem leE_eq (enc : κ → PyData) : PySem.W.dataLe false enc = leE enc := rfl
theorem leE_total (enc : κ → PyData) : PySem.W.TotalLe (leE enc) := PySem.W.sortLe_total (PyProof.Rows.listOrd PyProof.Rows.itemOrd) false fun b => PySem.W.keyToks (enc b)
def sortU (enc : κ → PyData) (ks : List κ) : List κ := (uniq ks).mergeSort (leE enc)
theorem leE_anti (inj : ∀ {a b : κ}, PySem.W.keyToks (enc a) = PySem.W.keyToks (enc b) → a = b) {a b : κ} (h1 : leE enc a b = true) (h2 : leE enc b a = true) : a = b := by
  unfold leE at h1 h2
  rw [Bool.not_eq_true'] at h1 h2
  exact inj (PyProof.Rows.lex_total _ _ h2 h1)
theorem sorted_eq {le : κ → κ → Bool} (anti : ∀ {a b : κ}, le a b = true → le b a = true → a = b) : ∀ {l m : List κ}, l.Pairwise (fun a b => le a b = true) → m.Pairwise (fun a b => le a b = true) → l.Perm m → l = m
  | [], m, _, _, p => (List.nil_perm.mp p).symm
  | x :: l, [], _, _, p => by cases List.perm_nil.mp p
  | x :: l, y :: m, h1, h2, p => by
    obtain ⟨a1, a2⟩ := List.pairwise_cons.mp h1
    obtain ⟨b1, b2⟩ := List.pairwise_cons.mp h2
    have e : x = y := by
      rcases List.mem_cons.mp (p.mem_iff.mp (List.mem_cons_self ..)) with e | hx
      · exact e
      · rcases List.mem_cons.mp (p.mem_iff.mpr (List.mem_cons_self ..)) with e | hy
        · exact e.symm
        · exact anti (a1 y hy) (b1 x hx)
    subst e
    rw [sorted_eq anti a2 b2 (List.Perm.cons_inv p)]
theorem sortU_of (inj : ∀ {a b : κ}, PySem.W.keyToks (enc a) = PySem.W.keyToks (enc b) → a = b) {L ks : List κ} (nd : L.Nodup) (mem : ∀ k, k ∈ L ↔ k ∈ ks) : L.mergeSort (leE enc) = sortU enc ks := by
  refine sorted_eq (le := leE enc) (fun h1 h2 => leE_anti inj h1 h2) (PySem.W.sort_pairwise (leE_total enc) L) (PySem.W.sort_pairwise (leE_total enc) _) ?_
  refine (List.mergeSort_perm _ _).trans (List.Perm.trans ?_ (List.mergeSort_perm _ _).symm)
  exact (List.perm_ext_iff_of_nodup nd (nodup_uniq ks)).mpr fun k => (mem k).trans mem_uniq.symm
theorem mem_sortU {k : κ} {ks : List κ} : k ∈ sortU enc ks ↔ k ∈ ks := by
  unfold sortU
  rw [(List.mergeSort_perm _ _).mem_iff, mem_uniq]
theorem nodup_sortU {ks : List κ} : (sortU enc ks).Nodup := (List.mergeSort_perm _ _).nodup_iff.mpr (nodup_uniq ks)
theorem sortU_sorted (inj : ∀ {a b : κ}, PySem.W.keyToks (enc a) = PySem.W.keyToks (enc b) → a = b) {ks : List κ} : (sortU enc ks).Pairwise fun a b => PySem.W.dataLt (enc a) (enc b) = true := by
  have h := PySem.W.sort_pairwise (leE_total enc) (uniq ks)
  have n : (sortU enc ks).Pairwise (· ≠ ·) := nodup_sortU
  refine List.Pairwise.imp₂ (fun a b h1 h2 => ?_) h n
  cases e : PySem.W.dataLt (enc a) (enc b) with
  | true => rfl
  | false =>
    refine absurd (leE_anti inj h1 ?_) h2
    unfold leE
    rw [e]; rfl
theorem length_sortU_le {ks : List κ} : (sortU enc ks).length ≤ ks.length := by
  unfold sortU
  rw [(List.mergeSort_perm _ _).length_eq]
  induction ks with
  | nil => exact Nat.le_refl _
  | cons x xs ih =>
    unfold uniq
    split
    · exact Nat.le_succ_of_le ih
    · exact Nat.succ_le_succ ih
end
section
variable {P : Program} {w : World} {A : Around} {E : Value → Shared → Prop} {s : Shared} {κ : Type} {kd : SetKd P w κ}
theorem firsts_perm : ∀ {vs : List Value} {L : List (Value × κ)}, vs.Perm (L.map (·.1)) → ∃ L1 : List (Value × κ), L1.Perm L ∧ vs = L1.map (·.1) := by
  intro vs L h
  generalize hm : L.map (·.1) = M at h
  induction h generalizing L with
  | nil => exact ⟨[], by rw [List.map_eq_nil_iff] at hm; rw [hm], rfl⟩
  | @cons x l1 l2 h ih =>
    match L, hm with
    | p :: L, hm =>
      rw [List.map_cons, List.cons.injEq] at hm
      obtain ⟨L', h1, h2⟩ := ih hm.2
      exact ⟨p :: L', h1.cons p, by rw [List.map_cons, h2, hm.1]⟩
  | @swap x y l =>
    match L, hm with
    | p :: q :: L, hm =>
      rw [List.map_cons, List.map_cons, List.cons.injEq, List.cons.injEq] at hm
      exact ⟨q :: p :: L, .swap p q L, by rw [List.map_cons, List.map_cons, hm.1, hm.2.1, hm.2.2]⟩
  | @trans l1 l2 l3 h1 h2 ih1 ih2 =>
    obtain ⟨L1, q1, q2⟩ := ih2 hm
    obtain ⟨L2, q3, q4⟩ := ih1 q2.symm
    exact ⟨L2, q3.trans q1, q4⟩
theorem each_firsts {R : Value → Value × κ → Prop} : ∀ {L : List (Value × κ)}, (∀ p ∈ L, R p.1 p) → PySem.W.EachIs R (L.map (·.1)) L
  | [], _ => .nil
  | p :: L, h => .cons (h p (.head _)) (each_firsts fun q hq => h q (.tail _ hq))
theorem each_eq : ∀ {vs : List Value} {L : List (Value × κ)}, PySem.W.EachIs (fun v p => v = p.1) vs L → vs = L.map (·.1)
  | _, _, .nil => rfl
  | _, _, .cons h t => by rw [List.map_cons, h, each_eq t]
/-- sorted(a set) -/
theorem sort_set {a : Addr} {L : List (Value × κ)} {enc : κ → PyData} {Q : Value → Shared → Prop} (R : SetIs kd s.heap a L) (hh : A.handled = none) (rd : ∀ p ∈ L, Reads s.heap p.1 (enc p.2) []) (al : PySem.W.AllAlike (L.map fun p => enc p.2)) (so : PySem.W.Sortable (L.map fun p => enc p.2)) (hu : ∀ p ∈ L, A.units + 2 + (enc p.2).depth < cLine)
    (hQ : ∀ s' p (L' : List (Value × κ)) (c : Nat), (∀ b o, s.heap.get? b = some o → s'.heap.get? b = some o) → s'.gens = s.gens → s'.os = s.os → s.heap.objs.size ≤ p → s'.heap.get? p = some (seqObj "list" (L'.map (·.1)).toArray c) → (∀ q ∈ L', q ∈ L) →
      (∃ L1 : List (Value × κ), L1.Perm L ∧ L' = L1.mergeSort (PySem.W.dataLe false fun q => enc q.2)) → Q (.ref p) s') : wpAny (model P w) A (PySem.call (.builtin "sorted") [.ref a]) Q E s := by
  obtain ⟨es, ep, t, W, _⟩ := R
  obtain ⟨o, ho, hex, hd⟩ := W.ob
  have few := W.few
  refine Calls.call_function_entry kind_sorted plain_sorted entry_sorted (args_sorted1 _) ?_
  unfold Builtin.«sorted»
  refine wpAny_bind (m := checkCount "sorted" 1 1 _) (wpAny_pure (wpAny_bind (collect_set (A := A.in1) hh ⟨o, ho, hex.1, hd⟩ W.fits (by rw [W.size]; exact Nat.lt_trans few (by decide)) W.ris W.led ?_)))
  intro s1 vs k1 hz g1 o1 pm
  rw [W.rows, List.map_map] at pm
  obtain ⟨L1, p1, rfl⟩ := firsts_perm (L := L) pm
  have len : (L1.map (·.1)).length < 64 := by rw [List.length_map, p1.length_eq]; exact few
  refine wpAny_bind (wpAny_newList ?_ (by rw [sizeLine_eq]; omega))
  have oL : (s1.heap.push (seqObj "list" (L1.map (·.1)).toArray 0)).get? s1.heap.objs.size = some (seqObj "list" (L1.map (·.1)).toArray 0) := Heap.get?_push_size _ rfl
  have sub : ∀ q ∈ L1, q ∈ L := fun q hq => p1.mem_iff.mp hq
  have al1 : PySem.W.AllAlike (L1.map fun q => enc q.2) := fun d hd d' hd' => al d ((p1.map _).mem_iff.mp hd) d' ((p1.map _).mem_iff.mp hd')
  have so1 : PySem.W.Sortable (L1.map fun q => enc q.2) := so.imp (fun h d hd => h d ((p1.map _).mem_iff.mp hd)) (fun h d hd => h d ((p1.map _).mem_iff.mp hd))
  have lid : ∀ b o, (s1.heap.push (seqObj "list" (L1.map (·.1)).toArray 0)).get? b = some o → b ≠ s1.heap.objs.size → s1.heap.get? b = some o := fun b o e ne => by rwa [Heap.get?_push_ne _ _ _ ne] at e
  refine wpAny_bind (wpAny_holding (PySem.W.list_sort_data (s := { s1 with heap := s1.heap.push (seqObj "list" (L1.map (·.1)).toArray 0) }) (R := fun v q => v = q.1) (enc := fun q => enc q.2) oL (each_firsts fun q _ => rfl) (each_firsts fun q hq => ?_) al1 so1 (by rw [sizeLine_eq, ← List.length_map (f := (·.1))]; omega) (fun q hq => hu q (sub q hq)) ?_))
  · exact ⟨[], PyProof.Rows.Reads.keeps (fun b o e => Heap.get?_push_of_some _ (k1 b o e)) (rd q (sub q hq)), List.not_mem_nil⟩
  · intro out ol eo
    have e' := each_eq eo
    subst e'
    obtain ⟨c, hc⟩ := sortedHeap_at (vs := L1.map (·.1)) (out := (List.map (·.1) (L1.mergeSort (PySem.W.dataLe false fun q => enc q.2))).toArray) oL
    refine wpAny_pure ⟨_, rfl, hQ _ s1.heap.objs.size _ c (fun b u e => ?_) g1 o1 hz hc (fun q hq => sub q ((List.mergeSort_perm _ _).mem_iff.mp hq)) ⟨L1, p1, rfl⟩⟩
    have q := k1 b u e
    have lt := Heap.lt_size q
    show (sortedHeap _ s1.heap.objs.size _ _).get? b = some u
    rw [sortedHeap_old (Nat.ne_of_lt lt) (by rw [size_push']; exact Nat.lt_succ_of_lt lt)]
    exact Heap.get?_push_of_some _ q
end
end Q

set_option Elab.async false
set_option linter.all false
set_option maxRecDepth 100000
set_option maxHeartbeats 2000000
namespace Q
open PySem PySem.Spec PyProof.Rows L2
section
variable {X : Cx} {κ : Type} [DecidableEq κ]
/-- a set of keyed things, by its object alone -/
def SetX (P : Program) (w : World) (kd : SetKd P w κ) (a : Addr) (L : List (Value × κ)) : HO := .ext fun h => ∃ es ep t, SetW w kd.hash (fun _ _ _ => True) h a L es ep t ∧ kd.more t (L.map fun p => kd.hash p.2)
theorem paired_get {α β : Type} {R : α → β → Prop} : ∀ {l : List α} {m : List β}, Paired R l m → ∀ p ∈ l.zip m, R p.1 p.2
  | _, _, .nil, p, h => by simp at h
  | _, _, .cons r t, p, h => by
    rw [List.zip_cons_cons] at h
    rcases List.mem_cons.mp h with rfl | h
    · exact r
    · exact paired_get t p h
/-- set(xs) -/
theorem cr_setG (kd : SetKd X.prog X.w κ) (tv : Hp → κ → V → Prop) (tok : ∀ {H : Hp} {h : Heap} {k : κ} {v : V} {u : Value}, HOk X.prog X.w H h → tv H k v → RelV v u → kd.ok h k u) (hc : X.calm = true) (hu : X.A.units + 3 < cLine) :
    CallR X (.type "set") (fun vs H Q => ∃ (a : Addr) (bs : List (V × κ)), vs = [.ref a] ∧ SqL X.K H a (bs.map (·.1)) ∧ (∀ b ∈ bs, tv H b.2 b.1) ∧ bs.length < 64 ∧
      ∀ (p : Addr) (L : List (Value × κ)), H p = none → (∀ q ∈ L, ∃ x, RelV x q.1 ∧ (x, q.2) ∈ bs) → (∀ k, k ∈ L.map (·.2) ↔ k ∈ bs.map (·.2)) → (L.map (·.2)).Nodup → Q (.ref p) (upd H p (SetX X.prog X.w kd p L))) := by
  intro pins s σ H vs us Q I r h
  obtain ⟨a, bs, rfl, hs, hb, few, q⟩ := h
  obtain ⟨its, rv, hl, hz⟩ := I.list hs
  obtain ⟨u, rfl, ru⟩ := vals1 r
  obtain rfl : u = Value.ref a := ru
  have hlen : its.length = bs.length := by rw [← rv.length, List.length_map]
  have pz : ∀ (i : Nat) (b : V × κ) (v : Value), bs[i]? = some b → its[i]? = some v → RelV b.1 v := fun i b v h1 h2 => by
    obtain ⟨u, e1, e2⟩ := rv.get (i := i) (x := b.1) (by rw [List.getElem?_map, h1]; rfl)
    rw [h2] at e1; cases e1; exact e2
  have pm : ∀ p ∈ its.zip (bs.map (·.2)), ∃ x, RelV x p.1 ∧ (x, p.2) ∈ bs := fun p hp => by
    obtain ⟨i, hi⟩ := List.mem_iff_getElem?.mp hp
    rw [List.getElem?_zip_eq_some, List.getElem?_map] at hi
    obtain ⟨h1, h2⟩ := hi
    obtain ⟨b, h3, h4⟩ := Option.map_eq_some_iff.mp h2
    exact ⟨b.1, pz i b p.1 h3 h1, by rw [← h4]; exact List.mem_of_getElem? h3⟩
  have zl : (its.zip (bs.map (·.2))).length = bs.length := by rw [List.length_zip, List.length_map, hlen, Nat.min_self]
  refine set_list (kd := kd) (its.zip (bs.map (·.2))) (I.ok.hd hc) hl.isList ?_ (fun p hp => ?_) (by rw [zl]; exact few) hu ?_
  · rw [List.map_fst_zip (by rw [List.length_map, hlen]; exact Nat.le_refl _)]
  · obtain ⟨x, h1, h2⟩ := pm p hp
    exact tok I.hok (hb _ h2) h1
  · rintro h' tk L ⟨es, ep, t, W, mo⟩ tk2 kp
    have hn : H s.heap.objs.size = none := I.hok.fresh (Nat.le_refl _)
    have W' : SetW X.w kd.hash (fun _ _ _ => True) h' s.heap.objs.size L es ep t := ⟨W.ob, W.rows, W.nd, fun _ _ => trivial, W.few, W.fits, W.ris, W.led⟩
    have obx : ∃ o, h'.get? s.heap.objs.size = some o := by obtain ⟨o, e, _⟩ := W.ob; exact ⟨o, e⟩
    refine ⟨.ref _, upd H s.heap.objs.size (SetX X.prog X.w kd s.heap.objs.size L), I.laid kp (Nat.le_refl _) ⟨⟨es, ep, t, W', mo⟩, obx, ?_⟩, rfl, q _ L hn (fun p hp => ?_) (fun k => ⟨fun hk => ?_, fun hk => ?_⟩) W.nd⟩
    · rintro h1 h2 ⟨es, ep, t, W, mo⟩ k12
      obtain ⟨o, e, r⟩ := W.ob
      exact ⟨es, ep, t, ⟨⟨o, k12 _ e, r⟩, W.rows, W.nd, fun _ _ => trivial, W.few, W.fits, W.ris, W.led⟩, mo⟩
    · have := tk2.sub p hp
      rw [List.take_length] at this
      exact pm p this
    · obtain ⟨p, hp, rfl⟩ := List.mem_map.mp hk
      have := tk2.sub p hp
      rw [List.take_length] at this
      obtain ⟨x, _, h2⟩ := pm p this
      exact List.mem_map.mpr ⟨_, h2, rfl⟩
    · have : k ∈ (its.zip (bs.map (·.2))).map (·.2) := by rw [List.map_snd_zip (by rw [List.length_map, hlen]; exact Nat.le_refl _)]; exact hk
      obtain ⟨p, hp, rfl⟩ := List.mem_map.mp this
      exact tk2.all p (by rw [List.take_length]; exact hp)
/-- sorted(set) -/
theorem cr_sortG (kd : SetKd X.prog X.w κ) (enc : κ → PyData) (inj : ∀ {a b : κ}, PySem.W.keyToks (enc a) = PySem.W.keyToks (enc b) → a = b) (tv : Hp → κ → V → Prop) (tok : ∀ {H : Hp} {h : Heap} {k : κ} {v : V} {u : Value}, HOk X.prog X.w H h → tv H k v → RelV v u → kd.ok h k u)
    (rd : ∀ {h : Heap} {k : κ} {u : Value}, kd.ok h k u → Reads h u (enc k) []) (hc : X.calm = true) :
    CallR X (.builtin "sorted") (fun vs H Q => ∃ (a : Addr) (L : List (Value × κ)), vs = [.ref a] ∧ H a = some (SetX X.prog X.w kd a L) ∧ (∀ q ∈ L, ∃ x, RelV x q.1 ∧ tv H q.2 x) ∧ PySem.W.AllAlike (L.map fun p => enc p.2) ∧ PySem.W.Sortable (L.map fun p => enc p.2) ∧ (∀ p ∈ L, X.A.units + 2 + (enc p.2).depth < cLine) ∧
      ∀ (p : Addr) (ys : List (V × κ)), H p = none → (∀ y ∈ ys, ∃ u, RelV y.1 u ∧ (u, y.2) ∈ L) → ys.map (·.2) = sortU enc (L.map (·.2)) → Q (.ref p) (upd H p (.lst (ys.map (·.1))))) := by
  intro pins s σ H vs us Q I r h
  obtain ⟨a, L, rfl, ha, hL, al, so, hu, q⟩ := h
  obtain ⟨u, rfl, ru⟩ := vals1 r
  obtain rfl : u = Value.ref a := ru
  obtain ⟨⟨es, ep, t, W, mo⟩, _, _⟩ := I.hok a _ ha
  have el : ∀ p ∈ L, kd.ok s.heap p.2 p.1 := fun p hp => by
    obtain ⟨x, h1, h2⟩ := hL p hp
    exact tok I.hok h2 h1
  have R : SetIs kd s.heap a L := ⟨es, ep, t, ⟨W.ob, W.rows, W.nd, el, W.few, W.fits, W.ris, W.led⟩, mo⟩
  refine sort_set R (I.ok.hd hc) (fun p hp => rd (el p hp)) al so hu fun s' p L' c kp g o hp hg sub hL' => ?_
  have hn : H p = none := I.hok.fresh hp
  obtain ⟨L1, pm, rfl⟩ := hL'
  have few : (L1.mergeSort (PySem.W.dataLe false fun q => enc q.2)).length < 64 := by rw [List.length_mergeSort, pm.length_eq]; exact W.few
  have ex : ∀ l : List (Value × κ), (∀ q ∈ l, q ∈ L) → ∃ ys : List (V × κ), Vals (ys.map (·.1)) (l.map (·.1)) ∧ ys.map (·.2) = l.map (·.2) ∧ ∀ y ∈ ys, ∃ u, RelV y.1 u ∧ (u, y.2) ∈ L := by
    intro l
    induction l with
    | nil => intro _; exact ⟨[], .nil, rfl, fun y hy => absurd hy List.not_mem_nil⟩
    | cons z l ih =>
      intro hz
      obtain ⟨ys, h1, h2, h3⟩ := ih fun q hq => hz q (List.mem_cons_of_mem _ hq)
      obtain ⟨x, h4, _⟩ := hL z (hz z (List.mem_cons_self ..))
      refine ⟨(x, z.2) :: ys, .cons h4 h1, by rw [List.map_cons, List.map_cons, h2], fun y hy => ?_⟩
      rcases List.mem_cons.mp hy with rfl | hy
      · exact ⟨z.1, h4, hz z (List.mem_cons_self ..)⟩
      · exact h3 y hy
  obtain ⟨ys, h1, h2, h3⟩ := ex _ sub
  have hlen : (ys.map (·.1)).length ≤ sizeLine := by
    have := congrArg List.length h2
    rw [List.length_map, List.length_map] at this
    rw [List.length_map, this, sizeLine_eq]; omega
  have J : Inv X pins σ (upd H p (.lst (ys.map (·.1)))) { s with heap := s'.heap, gens := s'.gens, drawn := s'.drawn, toks := s'.toks } :=
    I.call (ch := []) (Un.laid kp hp hn) (I.hok.laid kp hp ⟨hlen, _, c, h1, hg⟩) (by rw [g]; exact I.bare) (fun _ z => nomatch z)
  have e : s' = { s with heap := s'.heap, gens := s'.gens, drawn := s'.drawn, toks := s'.toks } := by
    cases s'
    cases s
    cases o
    rfl
  rw [e]
  refine ⟨.ref p, _, J, rfl, q p ys hn h3 ?_⟩
  rw [h2]
  have mm : (L1.mergeSort (PySem.W.dataLe false fun q => enc q.2)).map (·.2) = (L1.map (·.2)).mergeSort (leE enc) := by
    refine List.map_mergeSort fun x _ y _ => ?_
    rfl
  rw [mm]
  exact sortU_of inj ((pm.map (·.2)).nodup_iff.mpr W.nd) fun k => (pm.map (·.2)).mem_iff
/-- sorted(list) of data -/
theorem cr_sortD : CallR X (.builtin "sorted") (fun vs H Q => ∃ (a : Addr) (bs : List (V × PyData)), vs = [.ref a] ∧ SqL X.K H a (bs.map (·.1)) ∧ (∀ b ∈ bs, Dp X.K H b.1 b.2) ∧ PySem.W.AllAlike (bs.map (·.2)) ∧ PySem.W.Sortable (bs.map (·.2)) ∧ (∀ b ∈ bs, X.A.units + 2 + b.2.depth < cLine) ∧
      ∀ (p : Addr), H p = none → Q (.ref p) (upd H p (.lst ((bs.mergeSort (PySem.W.dataLe false (·.2))).map (·.1))))) := by
  intro pins s σ H vs us Q I r h
  obtain ⟨a, bs, rfl, hs, hb, al, so, hu, q⟩ := h
  obtain ⟨its, rv, hl, hz⟩ := I.list hs
  obtain ⟨u, rfl, ru⟩ := vals1 r
  obtain rfl : u = Value.ref a := ru
  have each : ∀ (bs : List (V × PyData)) (its : List Value), Vals (bs.map (·.1)) its → PySem.W.EachIs (fun u (b : V × PyData) => RelV b.1 u) its bs := by
    intro bs
    induction bs with
    | nil => intro its h; cases h; exact .nil
    | cons b bs ih => intro its h; cases h with | cons h t => exact .cons h (ih _ t)
  have back : ∀ (bs : List (V × PyData)) (its : List Value), PySem.W.EachIs (fun u (b : V × PyData) => RelV b.1 u) its bs → Vals (bs.map (·.1)) its := by
    intro bs its h
    induction h with
    | nil => exact .nil
    | cons h t ih => exact .cons h ih
  have e := each bs its rv
  have er : PySem.W.EachIs (fun v (b : V × PyData) => ∃ as, Reads s.heap v b.2 as) its bs := by
    have : ∀ (bs : List (V × PyData)) (its : List Value), (∀ b ∈ bs, Dp X.K H b.1 b.2) → PySem.W.EachIs (fun u (b : V × PyData) => RelV b.1 u) its bs → PySem.W.EachIs (fun v (b : V × PyData) => ∃ as, Reads s.heap v b.2 as) its bs := by
      intro bs its hb h
      induction h with
      | nil => exact .nil
      | cons h t ih => exact .cons (Dp.reads I _ _ _ (hb _ (List.mem_cons_self ..)) h) (ih fun b hb' => hb b (List.mem_cons_of_mem _ hb'))
    exact this bs its hb e
  have hlen : bs.length ≤ sizeLine := by rw [List.length_map] at hz; exact hz
  refine PySem.W.sorted_data (enc := fun b : V × PyData => b.2) (bs := bs) (vs := its) hl.isList e er al so hlen hu fun out ol eo => ?_
  obtain ⟨c, hc⟩ := sortedAll_at s.heap its out.toArray
  have hn : H (s.heap.objs.size + 1) = none := I.hok.fresh (Nat.le_succ _)
  refine ⟨.ref _, upd H (s.heap.objs.size + 1) (.lst ((bs.mergeSort (PySem.W.dataLe false (·.2))).map (·.1))), I.laid (t' := s.toks) (fun b u e => sortedAll_old e) (Nat.le_succ _) ⟨?_, out, c, back _ _ eo, hc⟩, rfl, q _ hn⟩
  rw [List.length_map, List.length_mergeSort]; exact hlen
end
end Q

set_option Elab.async false
set_option linter.all false
set_option maxRecDepth 100000
set_option maxHeartbeats 2000000
namespace Q
open PySem PySem.Spec PyProof.Rows L2
open PySem.Sem (wp)
open PySem.AutoSeq1 (wpAny_loadPart')
/-! ### enumerate(tuple) -/
theorem meets_enumT (l : Addr) (items : Array Value) (n : Nat) (dct : Option Addr) (sl : Array (Option Value)) :
    Meets (Builtin.«enumerate.__new__» ⟨[.type "enumerate", .ref l], []⟩) (fun _ R s => s.heap.get? l = some { cls := .type "tuple", dict := dct, data := .seq items n, slots := sl } ∧
      R (.ok (.ret (.ref (s.heap.push { cls := .type "tuple_iterator", data := .fields #[.ref l, .int 0 0] }).objs.size)))
        { s with heap := (s.heap.push { cls := .type "tuple_iterator", data := .fields #[.ref l, .int 0 0] }).push { cls := .type "enumerate", data := .fields #[.none, .bool false, .ref s.heap.objs.size, rawInt 0, .none, .none] } }) :=
  .of_wp fun prog w A R s h => by
    obtain ⟨hp, g, d, tk, os⟩ := s; obtain ⟨hl, h⟩ := h
    have hsub := sub_enumerate
    have hT : Heap.IsTuple (Shared.heap ⟨hp, g, d, tk, os⟩) l items := ⟨_, hl, rfl, n, rfl⟩
    wp_walk using wpAny_loadPart' hl
    refine wpAny_stack_any fun st => wpAny_pure ?_
    split
    · rename_i c _ _ _ _ _
      cases (c == Value.type "enumerate")
      · wp_walk using wpAny_loadPart' hl, wpAny_pyIter_tuple hT
        exact ⟨_, rfl, h⟩
      · wp_walk using wpAny_loadPart' hl, wpAny_pyIter_tuple hT
        exact ⟨_, rfl, h⟩
    · wp_walk using wpAny_loadPart' hl, wpAny_pyIter_tuple hT
      exact ⟨_, rfl, h⟩
section
variable {prog : Program} {w : World} {A : Around} {E : Value → Shared → Prop} {s : Shared}
theorem call_enumT {l : Addr} {items : Array Value} {Q : Value → Shared → Prop} (hL : s.heap.IsTuple l items)
    (h : ∀ h', IsEnum h' (s.heap.objs.size + 1) s.heap.objs.size 0 .none → h'.IsTupleIter s.heap.objs.size l 0 → (∀ b o, s.heap.get? b = some o → h'.get? b = some o) → Q (.ref (s.heap.objs.size + 1)) { s with heap := h' }) :
    wpAny (model prog w) A (call (.type "enumerate") [.ref l]) Q E s := by
  obtain ⟨⟨c, dct, dt, sl⟩, hl, hc, n, hd⟩ := hL
  replace hc : c = .type "tuple" := hc
  replace hd : dt = .seq items n := hd
  subst hc hd
  refine callType_new F.called_enumerate (by decide) (F.typeCall_enumerate_1 _) (F.newCall_enumerate_1 _) (fun obj => F.args_object_init_2 obj _) F.entry_enumerate_new (meets_enumT l items n dct sl) ⟨hl, ?_⟩
  have hz : (s.heap.push { cls := .type "tuple_iterator", data := .fields #[.ref l, .int 0 0] }).objs.size = s.heap.objs.size + 1 := Heap.size_push ..
  show _ ∧ _
  rw [hz]
  have he : IsEnum ((s.heap.push { cls := .type "tuple_iterator", data := .fields #[.ref l, .int 0 0] }).push
      { cls := .type "enumerate", data := .fields #[.none, .bool false, .ref s.heap.objs.size, rawInt 0, .none, .none] }) (s.heap.objs.size + 1) s.heap.objs.size 0 .none := by
    have := Heap.get?_push_size (s.heap.push { cls := .type "tuple_iterator", data := .fields #[.ref l, .int 0 0] })
      (o := { cls := .type "enumerate", data := .fields #[.none, .bool false, .ref s.heap.objs.size, rawInt 0, .none, .none] }) rfl
    rw [hz] at this; exact this
  exact ⟨⟨_, he, rfl⟩, h _ he ⟨_, Heap.get?_push_of_some _ (Heap.get?_push_size _ rfl), rfl, rfl⟩ fun b o x => Heap.get?_push_of_some _ (Heap.get?_push_of_some _ x)⟩
end
theorem draws_tuple {prog : Program} {w : World} {A : Around} (hh : A.handled = none) (it l : Addr) (hne : l ≠ it) (items : Array Value) :
    Draws prog w A it [it, l] items.size (fun i v => items[i]? = some v) (fun i h => h.IsTupleIter it l i ∧ h.IsTuple l items) where
  live := fun _ _ st => let ⟨o, ho, _⟩ := st.1; ⟨o, ho⟩
  frame := fun _ _ _ st hk => ⟨st.1.at fun o e => hk it (by simp) o e, let ⟨o, ho, r⟩ := st.2; ⟨o, hk l (by simp) o ho, r⟩⟩
  item := fun i s Q E hi st hQ => by
    refine RZ.nextOf_tuple_item st.1 st.2 (x := items[i]) (by simp [hi]) fun h' hit' hs' => ?_
    exact hQ _ h' s.toks (by simp [hi]) ⟨hit', st.2.extBut hs'.extBut hne⟩ hs'
  done := fun s Q E st hE => RZ.nextOf_tuple_end hh st.1 st.2 (by simp) hE
theorem enumT_end {prog : Program} {w : World} {A : Around} {E : Value → Shared → Prop} {s : Shared} {e it l : Addr} {i : Nat} {items : Array Value} {old : Value} {Q : Option Value → Shared → Prop} (hh : A.handled = none)
    (he : IsEnum s.heap e it i old) (hit : s.heap.IsTupleIter it l i) (hl : s.heap.IsTuple l items) (hx : items[i]? = none)
    (hQ : ∀ h', Heap.ExtBut it s.heap h' → Q none { s with heap := h' }) : wpAny (model prog w) A (pyNext (.ref e)) Q E s := by
  have hT : s.TypeIs (.ref e) "enumerate" := ⟨_, he, rfl⟩
  unfold pyNext
  refine wpAny_bind (wpAny_attempt (wpAny_callSpecial?_slot (name := Str.ofString "__next__") hT F.slot_enumerate_next (wpAny_call_entry F.slot_enumerate_next hT F.entry_enumerate_next ?_ (F.args_enumerate_next_1 _))))
  show wpAny _ _ (field (.ref e) 2 >>= _) _ _ _
  refine wpAny_bind (wpAny_field he rfl (x := .ref it) rfl ?_)
  refine wpAny_bind (RZ.nextOf_tuple_end (A := A.in1) hh hit hl hx fun h' x he' hx' => ?_)
  obtain ⟨o, ho, hc⟩ := hx'
  refine wpAny_bind (wpAny_isInstance (T := "StopIteration") (b := true) ⟨o, ho, hc⟩ isSubtype_stop ?_)
  exact wpAny_pure (hQ _ he')
/-- the tuple at a, each item in a new pair -/
def IteT (K : PySem.W.Frag) (a : Addr) : It :=
  ⟨fun i H => ∃ (xs : List V) (x : V), SqT K H a xs ∧ xs[i]? = some x, fun i H v H' => ∃ T x, v = .ref T ∧ H T = none ∧ H' = upd H T (.tup [.int (i : Nat), x]) ∧ ∀ xs, SqT K H a xs → xs[i]? = some x, fun i H => ∃ xs : List V, SqT K H a xs ∧ xs.length ≤ i⟩
theorem sqt_inj {X : Cx} {pins : List (Addr × Obj)} {σ : L2.St} {H : Hp} {s : Shared} {a : Addr} {xs ys : List V} (I : Inv X pins σ H s) (h : SqT X.K H a xs) (h' : SqT X.K H a ys) : xs = ys := by
  obtain ⟨its, r, ⟨o, e, _, n, d⟩, _⟩ := I.tuple h
  obtain ⟨its', r', ⟨o', e', _, n', d'⟩, _⟩ := I.tuple h'
  rw [e] at e'; cases e'
  rw [d] at d'
  injection d' with d1 _
  have : its = its' := by simpa using congrArg Array.toList d1
  subst this
  exact Vals.inj r r'
theorem turn_enumT {P : Program} {w : World} {K : PySem.W.Frag} {elts : List Expr} {kk : Nat} {tpos : Pos} (a e it : Addr) :
    Turn P w K (.Tuple elts kk tpos) (IteT K a) [e, it] e (fun i h => (∃ old, IsEnum h e it ((i : Nat) : Int) old) ∧ h.IsTupleIter it a i ∧ e ≠ it ∧ a ≠ it ∧ e ≠ a) where
  mem := by simp
  obj := fun i h st b hb => by
    obtain ⟨⟨old, he⟩, ⟨o, ho, hc, hd⟩, _⟩ := st
    have e' : b = e ∨ b = it := by simpa using hb
    rcases e' with z | z
    · rw [z]; exact ⟨_, he, fun v q => nomatch q⟩
    · rw [z]; exact ⟨o, ho, fun v q => by rw [hd] at q; cases q⟩
  keep := fun i h h' st k => let ⟨⟨old, he⟩, hi, hne⟩ := st; ⟨⟨old, k e (by simp) _ he⟩, hi.at fun o q => k it (by simp) o q, hne⟩
  item := by
    intro X hP hw hK hc i pins s σ H E I hf st hg
    subst hP hw hK
    obtain ⟨⟨old, he⟩, hit, hne, hai, hea⟩ := st
    obtain ⟨xs, x, hq, hx⟩ := hg
    obtain ⟨its, rv, ⟨o, ho, hcl, n, hd⟩, hz⟩ := I.tuple hq
    have p : s.heap.IsTuple a its.toArray := ⟨o, ho, hcl, n, hd⟩
    obtain ⟨u, hu, ru⟩ := rv.get hx
    have hel : e < s.heap.objs.size := Heap.lt_size he
    have hil : it < s.heap.objs.size := by obtain ⟨_, q, _⟩ := hit; exact Heap.lt_size q
    have hlt : i < its.toArray.size := by simpa using (List.getElem?_eq_some_iff.mp hu).1
    refine wpAny_pyNext_enum_itemD (draws_tuple (A := X.A.in1) (I.ok.hd hc) it a hai its.toArray) he ⟨hit, p⟩ hlt hne (by simp [hea, hne]) fun x' h' tk hP ho hst' hT hsz hk => ?_
    have hx' : x' = u := by
      have : its[i]? = some x' := by simpa using hP
      rw [hu] at this; cases this; rfl
    subst hx'
    refine ⟨_, rfl, wpAny_letOwnedTupleGo_enum (s := { s with heap := h', toks := tk + 1 }) ho fun h'' he' sb => ?_⟩
    have hT2 : h''.get? s.heap.objs.size = some { cls := .type "tuple", data := .seq #[.int i tk, x'] } := (sb.2 _ (Nat.ne_of_gt hel)).trans hT
    have new : ObjOk X.prog X.w (upd H s.heap.objs.size (.tup [.int (i : Nat), x])) h'' s.heap.objs.size (.tup [.int (i : Nat), x]) :=
      ⟨by show 2 ≤ sizeLine; decide, [.int i tk, x'], .cons ⟨_, rfl⟩ (.cons ru .nil), ⟨_, hT2, rfl, _, rfl⟩⟩
    have I1 : Inv X pins σ (upd H s.heap.objs.size (.tup [.int (i : Nat), x])) { s with heap := h'', toks := tk + 1 } :=
      I.turnedNew (ch := [e, it]) (fun b ob hb q => (sb.2 b (fun z => hb (by simp [z]))).trans (hk b ob (fun z => hb (by simp [z])) (fun z => hb (by simp [z])) q)) hf (Nat.le_refl _) new
    refine ⟨.ref s.heap.objs.size, _, I1, rfl, ⟨_, x, rfl, I.hok.fresh (Nat.le_refl _), rfl, fun ys hy => by rw [sqt_inj I hy hq]; exact hx⟩, ⟨⟨x', ?_⟩, hst'.1.at fun o q => (sb.2 it (Ne.symm hne)).trans q, hne, hai, hea⟩, fun b hb => ?_⟩
    · have e1 : ((i + 1 : Nat) : Int) = (i : Int) + 1 := by omega
      rw [e1]; exact he'
    · have hb' : b < s.heap.objs.size := by
        have e' : b = e ∨ b = it := by simpa using hb
        rcases e' with z | z
        · rw [z]; exact hel
        · rw [z]; exact hil
      rw [upd_ne (Nat.ne_of_lt hb')]
      exact (hf b hb).1
  done := by
    intro X hP hw hK hc i pins s σ H E I hf st hg
    subst hP hw hK
    obtain ⟨⟨old, he⟩, hit, hne, hai, hea⟩ := st
    obtain ⟨xs, hq, hx⟩ := hg
    obtain ⟨its, rv, ⟨o, ho, hcl, n, hd⟩, hz⟩ := I.tuple hq
    have p : s.heap.IsTuple a its.toArray := ⟨o, ho, hcl, n, hd⟩
    obtain ⟨f0, f1, f2, f3, f4, f5⟩ := hf it (by simp)
    have hl : its.toArray[i]? = none := by rw [Array.getElem?_eq_none_iff, List.size_toArray, ← rv.length]; exact hx
    exact enumT_end (I.ok.hd hc) he hit p hl fun h' eb => ⟨rfl, I.turned (t' := s.toks) (fun b o hb q => eb b o hb q) f0 f1 f3 f4 f5⟩
  self := fun A i s Q E st h => let ⟨⟨_, he⟩, _⟩ := st; wpAny_pyIter_enum he h
def iEnumT (K : PySem.W.Frag) (ta : TA) : TI := fun σ H R => ta σ H fun vs H1 => ∃ a xs, vs = [.ref a] ∧ SqT K H1 a xs ∧ R (IteT K a) H1
theorem pi_enumT {X : Cx} {e : Expr} {ta : TA} {p pos tpos : Pos} {elts : List Expr} {kk : Nat} (hg : Gl X "enumerate") (hm : X.mg "enumerate" = none) (ha : PA X [e] ta) (hs : starEach [e] X.env = [(false, eval e X.env)] := by rfl) :
    PI X (.Tuple elts kk tpos) (.Call (.Name "enumerate" p) [e] [] pos) (iEnumT X.K ta) := by
  refine ⟨fun pins s σ H R I h => ?_⟩
  refine Call_ (ld_blt I hg hm boot_enumerate (PyProof.Rows.callWith_type1 (thn (ha.run pos pins s σ H _ I h) fun us s1 ⟨vs, H1, I1, r1, q1⟩ => ?_) hs rfl))
  obtain ⟨a, xs, ex, hq, q⟩ := q1
  subst ex
  cases r1 with
  | cons r rr =>
    cases rr
    cases r
    obtain ⟨its, rv, ⟨o, ho, hcl, n, hd⟩, hz⟩ := I1.tuple hq
    have hal := Heap.lt_size ho
    refine call_enumT ⟨o, ho, hcl, n, hd⟩ fun h' he hit hk => wpAny_pyIter_enum he ?_
    have I2 : Inv X pins σ H1 { s1 with heap := h' } := I1.kept (t' := s1.toks) hk
    refine ⟨s1.heap.objs.size + 1, [s1.heap.objs.size + 1, s1.heap.objs.size], _, _, H1, rfl, I2, turn_enumT a (s1.heap.objs.size + 1) s1.heap.objs.size, ⟨⟨.none, he⟩, hit, Nat.succ_ne_self _, Nat.ne_of_lt hal, Ne.symm (Nat.ne_of_lt (Nat.lt_succ_of_lt hal))⟩, fun b hb => ?_, q⟩
    have e' : b = s1.heap.objs.size + 1 ∨ b = s1.heap.objs.size := by simpa using hb
    have hle : s1.heap.objs.size ≤ b := by
      rcases e' with z | z
      · rw [z]; exact Nat.le_add_right _ _
      · rw [z]; exact Nat.le_refl _
    exact I1.fpOk hle (I1.hok.fresh hle)
end Q

set_option Elab.async false
set_option linter.all false
set_option maxRecDepth 100000
set_option maxHeartbeats 1000000
namespace Q
open PySem PySem.Spec PyProof.Rows L2

/-! ### the small language -/
inductive CT where
  | nm (i : Nat) | nms (is : List Nat)
  deriving DecidableEq, Inhabited
mutual
inductive CE where
  | var (i : Nat) | con (x : Str) | int (i : Int) | bl (b : Bool) | str (s : Str) | non
  | tup (es : CL) | lst (es : CL) | dct (k v : CE) | dnew (t : Bool)
  | bin (op : Operator) (a b : CE) | neg (a : CE)
  | cmp (op : CmpOp) (a b : CE) | chain (o1 o2 : CmpOp) (a b c : CE)
  | and (a b : CE) | or (a b : CE) | not (a : CE)
  | ife (t a b : CE)
  | sub (a i : CE) | slice (a : CE) (lo hi : CO) | rev (a : CE)
  | call (f : Str) (es : CL) | blt (f : Str) (es : CL)
  | mcall (a : CE) (m : Str) (es : CL) | attr (a : CE) (m : Str)
  | comp (el : CE) (tg : CT) (it : CI) (ifs : CO) (own : List Nat)
  | sortset (e : CE)
  | isi (e : CE) (c : Str)
inductive CL where
  | nil | cons (e : CE) (r : CL)
inductive CO where
  | no | yes (e : CE)
inductive CI where
  | ex (e : CE) | rng1 (e : CE) | rng2 (a b : CE) | enum (e : CE) | zip (a b : CE) | items (e : CE) | vals (e : CE)
end
inductive CS where
  | skip | seq (a b : CS) | exp (e : CE) | set (i : Nat) (e : CE) | setOwn (i : Nat) (e : CE)
  | unpack (is : List Nat) (e : CE) | par (is : List Nat) (fl : List Bool) (es : CL)
  | put (i : Nat) (k e : CE) | puts (ks : List (Nat × Option CE)) (es : CL) | app (i : Nat) (e : CE) | ext (i : Nat) (e : CE)
  | popTo (is : List Nat) (i : Nat) | setA (i : Nat) (m : Str) (e : CE)
  | ret (e : CE) | retCell (e : CL) | retN
  | iff (t : CE) (a b : CS) | loop (tg : CT) (it : CI) (body : CS) | whl (t : CE) (body : CS)
  | cont | stuck
  deriving Inhabited

/-! ### data as the library's data -/
mutual
def D.py : D → Option PyData
  | .non => some .none
  | .bl b => some (.bool b)
  | .int i => some (.int i)
  | .str s => some (.str s)
  | .tup xs => (D.pyL xs).map .tuple
  | .lst xs => (D.pyL xs).map .list
  | _ => none
def D.pyL : List D → Option (List PyData)
  | [] => some []
  | d :: ds => match D.py d, D.pyL ds with
    | some x, some r => some (x :: r)
    | _, _ => none
end
mutual
/-- has a list, a dict, an instance in it -/
def D.hasL : D → Bool
  | .lst _ => true
  | .tup xs => D.hasLs xs
  | .dK _ xs => D.hasLs xs
  | .dT _ xs => D.hasLs xs
  | .obj _ _ _ => true
  | .inst _ _ _ _ => true
  | _ => false
def D.hasLs : List D → Bool
  | [] => false
  | d :: ds => d.hasL || D.hasLs ds
end
mutual
def D.hasM : D → Bool
  | .dK _ _ => true
  | .dT _ _ => true
  | .tup xs => D.hasMs xs
  | .lst xs => D.hasMs xs
  | .obj _ _ xs => D.hasMs xs
  | .inst _ _ _ xs => D.hasMs xs
  | _ => false
def D.hasMs : List D → Bool
  | [] => false
  | d :: ds => d.hasM || D.hasMs ds
end
/-- what was lent to the making of d may be taken back -/
def back (o d : D) : Bool := match o with
  | .lst _ => !d.hasL
  | .dK _ _ => !d.hasM
  | .dT _ _ => !d.hasM
  | _ => false

/-! ### operations on data -/
def keyOf : D → Option Key
  | .int i => some (.inl i)
  | .str s => some (.inr s)
  | _ => none
def keysOf : List D → Option (List Key)
  | [] => some []
  | d :: ds => match keyOf d, keysOf ds with
    | some x, some r => some (x :: r)
    | _, _ => none
def valD {κ : Type} [DecidableEq κ] : List κ → List D → κ → Option D
  | k' :: ks, x :: xs, k => if k' = k then some x else valD ks xs k
  | _, _, _ => none
def putKs {κ : Type} [DecidableEq κ] (ks : List κ) (k : κ) : List κ := if k ∈ ks then ks else ks ++ [k]
def putXs {κ : Type} [DecidableEq κ] (ks : List κ) (xs : List D) (k : κ) (d : D) : List D :=
  if k ∈ ks then List.zipWith (fun k' x => if k' = k then d else x) ks xs else xs ++ [d]
def getD (o k : D) : Option (Option D) := match o with
  | .dK ks xs => (keyOf k).map fun q => valD ks xs q
  | .dT ks xs => match k with
    | .tup ys => (keysOf ys).map fun q => valD ks xs q
    | _ => none
  | _ => none
def putD (o k v : D) : Option D := match o with
  | .dK ks xs => (keyOf k).map fun q => .dK (putKs ks q) (putXs ks xs q v)
  | .dT ks xs => match k with
    | .tup ys => (keysOf ys).map fun q => .dT (putKs ks q) (putXs ks xs q v)
    | _ => none
  | _ => none
def isFlat : D → Bool
  | .non => true
  | .bl _ => true
  | .int _ => true
  | .str _ => true
  | _ => false
def flatEq : D → D → Bool
  | .non, .non => true
  | .bl a, .bl b => a == b
  | .bl a, .int j => (if a then 1 else 0) == j
  | .int i, .bl b => i == (if b then 1 else 0)
  | .int i, .int j => i == j
  | .str x, .str y => x == y
  | _, _ => false
/-- a == b -/
def eqD (a b : D) : Option Bool := if isFlat a && isFlat b then some (flatEq a b) else
  match D.py a, D.py b with
  | some p, some q => if SeqAt.shaped p && SeqAt.shaped q then some (PyData.eqv p q) else none
  | _, _ => none
def ltD (a b : D) : Option Bool := match a, b with
  | .int i, .int j => some (decide (i < j))
  | .str x, .str y => some (decide (x.cps.toList < y.cps.toList))
  | .tup _, .tup _ => (match D.py a, D.py b with
    | some p, some q => if PySem.W.alike p q && decide (p.depth ≤ 64) then some (PySem.W.dataLt p q) else none
    | _, _ => none)
  | _, _ => none
def leD (a b : D) : Option Bool := match a, b with
  | .int i, .int j => some (decide (i ≤ j))
  | _, _ => none
def anyEq (x : D) : List D → Option Bool
  | [] => some false
  | y :: ys => match eqD y x, anyEq x ys with
    | some b, some r => some (b || r)
    | _, _ => none
def inD (x y : D) : Option Bool := match y with
  | .lst ys => if isFlat x && ys.all isFlat then some (ys.any fun z => flatEq z x) else
      (match D.py x, D.pyL ys with
      | some p, some qs => if SeqAt.shaped p && SeqAt.shaped (.list qs) then some (qs.any fun z => PyData.eqv z p) else none
      | _, _ => none)
  | .tup ys => if isFlat x && ys.all isFlat then some (ys.any fun z => flatEq z x) else none
  | .dK _ _ => (getD y x).map Option.isSome
  | .dT _ _ => (getD y x).map Option.isSome
  | .str z => match x with
    | .str c => (match c.cps.toList with | [q] => some (decide (q ∈ z.cps.toList)) | _ => none)
    | _ => none
  | _ => none
def cmpD (op : CmpOp) (a b : D) : Option Bool := match op with
  | .Eq => eqD a b
  | .NotEq => (eqD a b).map (!·)
  | .Lt => ltD a b
  | .Gt => (match a, b with | .int i, .int j => some (decide (j < i)) | _, _ => none)
  | .LtE => leD a b
  | .GtE => (match a, b with | .int i, .int j => some (decide (j ≤ i)) | _, _ => none)
  | .In => inD a b
  | .NotIn => (inD a b).map (!·)
  | .Is => (match b with | .non => some (match a with | .non => true | _ => false) | .bl q => (match a with | .bl p => some (p == q) | _ => none) | _ => none)
  | .IsNot => (match b with | .non => some (match a with | .non => false | _ => true) | .bl q => (match a with | .bl p => some (!(p == q)) | _ => none) | _ => none)
def bitsOk (i j : Int) : Bool := decide (i.natAbs.log2 + j.natAbs.log2 < 1000000)
def binD (op : Operator) (a b : D) : Option D := match op, a, b with
  | .Add, .int i, .int j => some (.int (i + j))
  | .Add, .str x, .str y => if x.length + y.length ≤ sizeLine then some (.str (x ++ y)) else none
  | .Add, .lst xs, .lst ys => if xs.length + ys.length ≤ sizeLine then some (.lst (xs ++ ys)) else none
  | .Add, .tup xs, .tup ys => if xs.length + ys.length ≤ sizeLine then some (.tup (xs ++ ys)) else none
  | .Sub, .int i, .int j => some (.int (i - j))
  | .Mult, .int i, .int j => if bitsOk i j then some (.int (i * j)) else none
  | .Mod, .int i, .int j => if 0 < j then some (.int (i % j)) else none
  | .FloorDiv, .int i, .int j => if 0 < j ∧ j.natAbs.log2 < 8000 then some (.int (i / j)) else none
  | .Pow, .int i, .int j => if 0 ≤ j ∧ j ≤ 100 ∧ i.natAbs.log2 ≤ 1000 then some (.int (i ^ j.toNat)) else none
  | _, _, _ => none
def cutD (xs : List D) (lo hi : Option Int) : List D := (xs.drop (HT.sIx xs.length 0 lo)).take (HT.sIx xs.length xs.length hi - HT.sIx xs.length 0 lo)
def sliceD (a : D) (lo hi : Option Int) : Option D := match a with
  | .lst xs => some (.lst (cutD xs lo hi))
  | .tup xs => some (.tup (cutD xs lo hi))
  | .str s => if s.length ≤ sizeLine then some (.str (cutS s lo hi)) else none
  | _ => none
def subD (st : Store) (a i : D) : Option D := match a, i with
  | .lst xs, .int j => atI xs j
  | .tup xs, .int j => atI xs j
  | .str s, .int j => if s.length ≤ sizeLine then (atI s.cps.toList j).map fun c => .str ⟨#[c]⟩ else none
  | .scr ns, .int j => (atI ns j).map .int
  | .cell c, .int j => (match st[c]? with | some ns => (atI ns j).map .int | none => none)
  | .dK _ _, k => (getD a k).join
  | .dT _ _, k => (getD a k).join
  | _, _ => none
def revD : D → Option D
  | .lst xs => some (.lst xs.reverse)
  | _ => none
def boolsOf : List D → Option (List Bool)
  | [] => some []
  | .bl b :: r => (boolsOf r).map (b :: ·)
  | _ :: _ => none
def intsOf : List D → Option (List Int)
  | [] => some []
  | .int b :: r => (intsOf r).map (b :: ·)
  | _ :: _ => none
def strsOf : List D → Option (List Str)
  | [] => some []
  | .str b :: r => (strsOf r).map (b :: ·)
  | _ :: _ => none
def depthOk (ps : List PyData) : Bool := ps.all fun p => decide (p.depth ≤ 64)
def alikeOk (ps : List PyData) : Bool := ps.all fun p => ps.all fun q => PySem.W.alike p q
def leP (a b : D) : Bool := match D.py a, D.py b with
  | some p, some q => !PySem.W.dataLt q p
  | _, _ => false
def sortableB (ps : List PyData) : Bool := (ps.all fun p => match p with
    | .tuple (_ :: _) => true
    | _ => false) || (ps.all fun p => match p with
    | .none => false
    | .tuple _ => false
    | _ => true)
def sortD (xs : List D) : Option D := match D.pyL xs with
  | some ps => if alikeOk ps && (sortableB ps && depthOk ps) then some (.lst (xs.mergeSort leP)) else none
  | none => none
def reprD (d : D) : Option D := match D.py d with
  | some p => if p.showable && (decide (p.shown.length ≤ sizeLine) && decide (p.depth ≤ 60)) && !p.hasDict then some (.str p.shown) else none
  | none => none
def keyD : Key → D
  | .inl i => .int i
  | .inr s => .str s
def tupD (k : List Key) : D := .tup (k.map keyD)
def tkeysOf : List D → Option (List (List Key))
  | [] => some []
  | .tup ys :: ds => (match keysOf ys, tkeysOf ds with
    | some x, some r => some (x :: r)
    | _, _ => none)
  | _ :: _ => none
/-- sorted(set(xs)) -/
def sortSetD : D → Option D
  | .lst xs => if xs.length < 64 then (match keysOf xs with
      | some ks => if alikeOk (ks.map encK) then some (.lst ((sortU encK ks).map keyD)) else none
      | none => (match tkeysOf xs with
        | some kss => if alikeOk (kss.map encT) && (kss.all fun k => !k.isEmpty) then some (.lst ((sortU encT kss).map tupD)) else none
        | none => none)) else none
  | _ => none
/-- list(dict) -/
def listD : List D → Option D
  | [.dK ks _] => some (.lst (ks.map keyD))
  | [.dT ks _] => some (.lst (ks.map tupD))
  | _ => none
def bltD2 (f : Str) (ds : List D) : Option D :=
  if f = "sorted" then (match ds with | [.lst xs] => sortD xs | _ => none)
  else if f = "repr" then (match ds with | [d] => reprD d | _ => none)
  else none
/-- a call of a built-in by its name -/
def bltD (f : Str) (ds : List D) : Option D :=
  if f = "len" then (match ds with
    | [.lst xs] => some (.int xs.length)
    | [.tup xs] => some (.int xs.length)
    | [.scr xs] => some (.int xs.length)
    | [.dK ks _] => some (.int ks.length)
    | [.str s] => if s.length ≤ sizeLine then some (.int s.length) else none
    | _ => none)
  else if f = "abs" then (match ds with | [.int i] => some (.int (if i < 0 then -i else i)) | _ => none)
  else if f = "all" then (match ds with | [.lst xs] => (boolsOf xs).map fun bs => .bl (bs.all id) | _ => none)
  else if f = "any" then (match ds with | [.lst xs] => (boolsOf xs).map fun bs => .bl (bs.any id) | _ => none)
  else if f = "sum" then (match ds with | [.lst xs] => (intsOf xs).map fun bs => .int bs.sum | _ => none)
  else if f = "max" then (match ds with | [.int i, .int j] => some (.int (if j > i then j else i)) | _ => none)
  else if f = "min" then (match ds with | [.int i, .int j] => some (.int (if j < i then j else i)) | _ => none)
  else if f = "int" then (match ds with | [.int i] => some (.int i) | [.bl k] => some (.int (if k then 1 else 0)) | _ => none)
  else if f = "tuple" then (match ds with | [.lst xs] => some (.tup xs) | [.tup xs] => some (.tup xs) | _ => none)
  else if f = "list" then (match ds with | [.lst xs] => some (.lst xs) | [.tup xs] => some (.lst xs) | _ => listD ds)
  else bltD2 f ds
def typeName : D → Option String
  | .non => some "NoneType"
  | .bl _ => some "bool"
  | .int _ => some "int"
  | .str _ => some "str"
  | .tup _ => some "tuple"
  | .lst _ => some "list"
  | .dK _ _ => some "dict"
  | _ => none
def isiB (t c : String) : Bool := t == c || (t == "bool" && c == "int")
def clsOf (c : Str) : Option String := if c = "int" then some "int" else if c = "bool" then some "bool" else if c = "str" then some "str" else if c = "tuple" then some "tuple" else if c = "list" then some "list" else if c = "dict" then some "dict" else none
/-- isinstance(d, c), c a built-in class -/
def isiD (d : D) (c : Str) : Option Bool := (typeName d).bind fun t => (clsOf c).map fun s => isiB t s
/-- a method of a built-in type -/
def methD (m : Str) (a : D) (ds : List D) : Option D :=
  if m = "get" then (match ds with
    | [k] => (getD a k).map fun o => o.getD .non
    | [k, x] => (getD a k).map fun o => o.getD x
    | _ => none)
  else if m = "join" then (match a, ds with
    | .str s, [.lst xs] => (strsOf xs).bind fun ys => if (ys.map (·.length)).sum + ys.length * s.length ≤ 16777216 then some (.str (Txt.join s ys)) else none
    | _, _ => none)
  else none

/-! ### what the small language does -/
abbrev FS := List D → Store → Option (D × Store)
structure Tab where
  fn : Str → Option FS
  con : Str → Option D
  fld : Str → List Str
  prop : Str → Str → Option FS
  mth : Str → Str → Option FS
def bindT (tg : CT) (d : D) (env : List (Option D)) : Option (List (Option D)) := match tg, d with
  | .nm i, d => some (env.set i (some d))
  | .nms is, .tup xs => if is.length = xs.length then some ((is.zip xs).foldl (fun e p => e.set p.1 (some p.2)) env) else none
  | _, _ => none
def wipeD (env : List (Option D)) : List Nat → List (Option D)
  | [] => env
  | v :: vs => (wipeD env vs).set v none
def compGo (f : D → Store → Option (Option D × Store)) : List D → Store → Option (List D × Store)
  | [], st => some ([], st)
  | d :: ds, st => match f d st with
    | some (some x, st1) => (match compGo f ds st1 with
      | some (xs, st2) => some (x :: xs, st2)
      | none => none)
    | some (none, st1) => compGo f ds st1
    | none => none
def itemsOf : D → Option (List D)
  | .lst xs => some xs
  | .tup xs => some xs
  | .str s => if s.length ≤ sizeLine then some (s.cps.toList.map fun c => .str ⟨#[c]⟩) else none
  | _ => none
def keysD : D → Option (List D)
  | .dK ks _ => some (ks.map keyD)
  | .dT ks _ => some (ks.map fun k => .tup (k.map keyD))
  | d => itemsOf d
def isVar : CE → Bool
  | .var _ => true
  | _ => false
def rngD (a b : Int) : Option (List D) := if -(2 ^ 62) ≤ a ∧ a < 2 ^ 62 ∧ -(2 ^ 62) ≤ b ∧ b < 2 ^ 62 ∧ (b - a).toNat ≤ sizeLine then some ((List.range (b - a).toNat).map fun (i : Nat) => .int (a + (i : Int))) else none
def enumD (xs : List D) : List D := xs.zipIdx.map fun p => .tup [.int p.2, p.1]
def zipDD (xs ys : List D) : List D := (xs.zip ys).map fun p => .tup [p.1, p.2]
mutual
def evalE (T : Tab) : CE → List (Option D) → Store → Option (D × Store)
  | .var i, env, st => (match env[i]? with
    | some (some d) => some (d, st)
    | _ => none)
  | .con x, _, st => (T.con x).map fun d => (d, st)
  | .int i, _, st => some (.int i, st)
  | .bl b, _, st => some (.bl b, st)
  | .str s, _, st => some (.str s, st)
  | .non, _, st => some (.non, st)
  | .tup es, env, st => (evalL T es env st).map fun r => (.tup r.1, r.2)
  | .lst es, env, st => (evalL T es env st).map fun r => (.lst r.1, r.2)
  | .dct a b, env, st => (evalE T a env st).bind fun x => (evalE T b env x.2).bind fun y => (keyOf x.1).map fun q => (.dK [q] [y.1], y.2)
  | .dnew t, _, st => some (if t then .dT [] [] else .dK [] [], st)
  | .bin op a b, env, st => (evalE T a env st).bind fun x => (evalE T b env x.2).bind fun y => (binD op x.1 y.1).map fun d => (d, y.2)
  | .neg a, env, st => (evalE T a env st).bind fun x => (match x.1 with
    | .int i => some (.int (-i), x.2)
    | _ => none)
  | .cmp op a b, env, st => (evalE T a env st).bind fun x => (evalE T b env x.2).bind fun y => (cmpD op x.1 y.1).map fun d => (.bl d, y.2)
  | .chain o1 o2 a b c, env, st => (evalE T a env st).bind fun x => (evalE T b env x.2).bind fun y => (cmpD o1 x.1 y.1).bind fun d =>
      if d then (evalE T c env y.2).bind fun z => (cmpD o2 y.1 z.1).map fun d => (.bl d, z.2) else some (.bl false, y.2)
  | .and a b, env, st => (evalE T a env st).bind fun x => (match x.1 with
    | .bl true => evalE T b env x.2
    | .bl false => some (.bl false, x.2)
    | _ => none)
  | .or a b, env, st => (evalE T a env st).bind fun x => (match x.1 with
    | .bl false => evalE T b env x.2
    | .bl true => some (.bl true, x.2)
    | _ => none)
  | .not a, env, st => (evalE T a env st).bind fun x => (match x.1 with
    | .bl b => some (.bl (!b), x.2)
    | _ => none)
  | .ife t a b, env, st => (evalE T t env st).bind fun x => (match x.1 with
    | .bl true => evalE T a env x.2
    | .bl false => evalE T b env x.2
    | _ => none)
  | .sub a i, env, st => (evalE T a env st).bind fun x => (evalE T i env x.2).bind fun y => (subD y.2 x.1 y.1).map fun d => (d, y.2)
  | .slice a lo hi, env, st => (evalE T a env st).bind fun x => (evalO T lo env x.2).bind fun y => (evalO T hi env y.2).bind fun z => (sliceD x.1 y.1 z.1).map fun d => (d, z.2)
  | .rev a, env, st => (evalE T a env st).bind fun x => (revD x.1).map fun d => (d, x.2)
  | .call f es, env, st => (T.fn f).bind fun m => (evalL T es env st).bind fun x => m x.1 x.2
  | .blt f es, env, st => (evalL T es env st).bind fun x => (bltD f x.1).map fun d => (d, x.2)
  | .mcall a m es, env, st => (evalE T a env st).bind fun x => (match x.1 with
    | .obj c ns _ => if m ∈ ns then none else (T.mth c m).bind fun f => (evalL T es env x.2).bind fun y => f (x.1 :: y.1) y.2
    | _ => (evalL T es env x.2).bind fun y => (methD m x.1 y.1).map fun d => (d, y.2))
  | .attr a m, env, st => (evalE T a env st).bind fun x => (match x.1 with
    | .obj c ns xs => if m ∈ T.fld c then (valD ns xs m).map fun d => (d, x.2) else (T.prop c m).bind fun f => f [x.1] x.2
    | .inst _ c ns xs => if m ∈ T.fld c then (valD ns xs m).map fun d => (d, x.2) else none
    | _ => none)
  | .comp el tg it ifs own, env, st => (evalI T it env st).bind fun x =>
      (compGo (fun d st => (bindT tg d (wipeD env own)).bind fun e1 => (evalB T ifs e1 st).bind fun b => if b.1 then (evalE T el e1 b.2).map fun y => (some y.1, y.2) else some (none, b.2)) x.1 x.2).map fun r => (.lst r.1, r.2)
  | .sortset e, env, st => (evalE T e env st).bind fun x => (sortSetD x.1).map fun d => (d, x.2)
  | .isi e c, env, st => (evalE T e env st).bind fun x => (isiD x.1 c).map fun b => (.bl b, x.2)
def evalL (T : Tab) : CL → List (Option D) → Store → Option (List D × Store)
  | .nil, _, st => some ([], st)
  | .cons e r, env, st => (evalE T e env st).bind fun x => (evalL T r env x.2).map fun y => (x.1 :: y.1, y.2)
def evalO (T : Tab) : CO → List (Option D) → Store → Option (Option Int × Store)
  | .no, _, st => some (none, st)
  | .yes e, env, st => (evalE T e env st).bind fun x => (match x.1 with
    | .int i => some (some i, x.2)
    | _ => none)
def evalB (T : Tab) : CO → List (Option D) → Store → Option (Bool × Store)
  | .no, _, st => some (true, st)
  | .yes e, env, st => (evalE T e env st).bind fun x => (match x.1 with
    | .bl b => some (b, x.2)
    | _ => none)
def evalI (T : Tab) : CI → List (Option D) → Store → Option (List D × Store)
  | .ex e, env, st => (evalE T e env st).bind fun x => (if isVar e then keysD x.1 else itemsOf x.1).map fun xs => (xs, x.2)
  | .rng1 e, env, st => (evalE T e env st).bind fun x => (match x.1 with
    | .int i => (rngD 0 i).map fun xs => (xs, x.2)
    | _ => none)
  | .rng2 a b, env, st => (evalE T a env st).bind fun x => (evalE T b env x.2).bind fun y => (match x.1, y.1 with
    | .int i, .int j => (rngD i j).map fun xs => (xs, y.2)
    | _, _ => none)
  | .enum e, env, st => (evalE T e env st).bind fun x => (match x.1 with
    | .lst xs => some (enumD xs, x.2)
    | .tup xs => some (enumD xs, x.2)
    | _ => none)
  | .zip a b, env, st => (evalE T a env st).bind fun x => (evalE T b env x.2).bind fun y => (match x.1, y.1 with
    | .lst xs, .lst ys => some (zipDD xs ys, y.2)
    | .tup xs, .tup ys => some (zipDD xs ys, y.2)
    | _, _ => none)
  | .items e, env, st => none
  | .vals e, env, st => none
end
end Q

set_option Elab.async false
set_option linter.all false
set_option maxRecDepth 100000
set_option maxHeartbeats 1000000
namespace Q
open PySem PySem.Spec PyProof.Rows L2

/-! ### rules that are chosen by the values -/
section
variable {X : Cx}
theorem opAny {f : Value → Value → Sem Value} : OpR X f (fun x y H Q => ∃ r, OpR X f r ∧ r x y H Q) := by
  intro pins s σ H x y v u Q I rx ry ⟨r, hr, q⟩
  exact hr pins s σ H x y v u Q I rx ry q
theorem callAny {f : Value} : CallR X f (fun xs H Q => ∃ r, CallR X f r ∧ r xs H Q) := by
  intro pins s σ H xs us Q I rx ⟨r, hr, q⟩
  exact hr pins s σ H xs us Q I rx q
theorem ixAny : IxR X (fun x y H Q => ∃ r, IxR X r ∧ r x y H Q) := by
  intro value slice pins s σ H x y v u Q I rx ry ⟨r, hr, q⟩ hs
  exact hr value slice pins s σ H x y v u Q I rx ry q hs
theorem slAny : SlR X (fun x lo hi H Q => ∃ r, SlR X r ∧ r x lo hi H Q) := by
  intro pins s σ H x v vl vu lo hi sl Q I rx hs pl pu ⟨r, hr, q⟩
  exact hr pins s σ H x v vl vu lo hi sl Q I rx hs pl pu q
end
/-- what follows a value -/
abbrev Cont (K : PySem.W.Frag) (F0 : Hp) (ρ : List Addr) (Hs : Hp) (st : Store) (d : D) (Q : VK) : Prop :=
  ∀ v H' ρ' Hs', Ext ρ Hs ρ' Hs' → Glob K F0 ρ' Hs' st H' → Rep K ρ' Hs' d v → Q v H'
section
variable {K : PySem.W.Frag} {F0 Hs H : Hp} {ρ : List Addr} {st : Store} {d : D} {Q : VK}
theorem Cont.flat (k : Cont K F0 ρ Hs st d Q) (g : Glob K F0 ρ Hs st H) {v : V} (r : Rep K ρ Hs d v) : Q v H := k v H ρ Hs (Ext.refl _ _) g r
theorem Cont.mono {ρ1 : List Addr} {Hs1 : Hp} (k : Cont K F0 ρ Hs st d Q) (e : Ext ρ Hs ρ1 Hs1) : Cont K F0 ρ1 Hs1 st d Q := fun v H' ρ' Hs' x => k v H' ρ' Hs' (e.trans x)
theorem Cont.lst {xs : List D} {vs : List V} (k : Cont K F0 ρ Hs st (.lst xs) Q) (g : Glob K F0 ρ Hs st H) (r : RepL K ρ Hs xs vs) : ∀ p, H p = none → Q (.ref p) (upd H p (.lst vs)) := fun p hp => by
  refine k _ _ ρ _ (Ext.upd (g.fresh hp)) (g.new hp) ?_
  unfold Rep
  exact ⟨p, vs, rfl, upd_same, RepL.mono (List.prefix_refl _) (Sub.upd (g.fresh hp)) _ _ r⟩
theorem Cont.tup {xs : List D} {vs : List V} (k : Cont K F0 ρ Hs st (.tup xs) Q) (g : Glob K F0 ρ Hs st H) (r : RepL K ρ Hs xs vs) : ∀ p, H p = none → Q (.ref p) (upd H p (.tup vs)) := fun p hp => by
  refine k _ _ ρ _ (Ext.upd (g.fresh hp)) (g.new hp) ?_
  unfold Rep
  exact ⟨p, vs, rfl, upd_same, RepL.mono (List.prefix_refl _) (Sub.upd (g.fresh hp)) _ _ r⟩
end
/-! ### data read -/
def vOf : D → V
  | .bl b => .bl b
  | .int i => .int i
  | .str s => .str s
  | _ => .non
section
variable {K : PySem.W.Frag} {F0 Hs H : Hp} {ρ : List Addr} {st : Store}
theorem Rep.bl {b : Bool} {v : V} : Rep K ρ H (.bl b) v ↔ v = .bl b := by unfold Rep; rfl
theorem Rep.int {b : Int} {v : V} : Rep K ρ H (.int b) v ↔ v = .int b := by unfold Rep; rfl
theorem Rep.str {b : Str} {v : V} : Rep K ρ H (.str b) v ↔ v = .str b := by unfold Rep; rfl
theorem Rep.non {v : V} : Rep K ρ H .non v ↔ v = .non := by unfold Rep; rfl
theorem Rep.tup {xs : List D} {v : V} : Rep K ρ H (.tup xs) v ↔ ∃ a vs, v = .ref a ∧ H a = some (.tup vs) ∧ RepL K ρ H xs vs := by conv => lhs; unfold Rep
theorem Rep.lst {xs : List D} {v : V} : Rep K ρ H (.lst xs) v ↔ ∃ a vs, v = .ref a ∧ H a = some (.lst vs) ∧ RepL K ρ H xs vs := by conv => lhs; unfold Rep
theorem Rep.dK {ks : List Key} {xs : List D} {v : V} : Rep K ρ H (.dK ks xs) v ↔ ∃ a vs, v = .ref a ∧ ks.length = xs.length ∧ At H a (.dK (ks.zip vs)) ∧ RepL K ρ H xs vs := by conv => lhs; unfold Rep
theorem Rep.dT {ks : List (List Key)} {xs : List D} {v : V} : Rep K ρ H (.dT ks xs) v ↔ ∃ a vs, v = .ref a ∧ ks.length = xs.length ∧ At H a (.dT (ks.zip vs)) ∧ RepL K ρ H xs vs := by conv => lhs; unfold Rep
theorem Rep.obj {c : Str} {ns : List Str} {xs : List D} {v : V} : Rep K ρ H (.obj c ns xs) v ↔ ∃ a dx vs, v = .ref a ∧ ns.length = xs.length ∧ H a = some (.ins (He.ga K c) dx (ns.zip vs)) ∧ RepL K ρ H xs vs := by conv => lhs; unfold Rep
theorem Rep.cell {i : Nat} {v : V} : Rep K ρ H (.cell i) v ↔ ∃ a, ρ[i]? = some a ∧ v = .ref a := by conv => lhs; unfold Rep
theorem Rep.scr {ns : List Int} {v : V} : Rep K ρ H (.scr ns) v ↔ ∃ a, v = .ref a ∧ ScrAt K H a (ns.map V.int) := by conv => lhs; unfold Rep
theorem Rep.inst {q : Addr} {c : Str} {ns : List Str} {xs : List D} {v : V} : Rep K ρ H (.inst q c ns xs) v ↔ ∃ a vs, v = .ref a ∧ ns.length = xs.length ∧ H a = some (.ins (He.ga K c) q (ns.zip vs)) ∧ RepL K ρ H xs vs := by conv => lhs; unfold Rep
theorem Rep.flat {d : D} {v : V} (h : isFlat d = true) (r : Rep K ρ H d v) : v = vOf d := by
  cases d with
  | non => exact Rep.non.mp r
  | bl b => exact Rep.bl.mp r
  | int b => exact Rep.int.mp r
  | str b => exact Rep.str.mp r
  | _ => cases h
theorem RepL.flat : ∀ {ds : List D} {vs : List V}, ds.all isFlat = true → RepL K ρ H ds vs → vs = ds.map vOf
  | [], vs, _, r => by rw [RepL.nil_iff] at r; subst r; rfl
  | d :: ds, vs, h, r => by
    obtain ⟨v, q, rfl, hx, k⟩ := RepL.cons_iff.mp r
    rw [List.all_cons, Bool.and_eq_true] at h
    rw [Rep.flat h.1 hx, RepL.flat h.2 k]; rfl
theorem flat_vOf {d : D} (h : isFlat d = true) : flatV (vOf d) = true := by cases d <;> first | rfl | cases h
theorem flats_vOf : ∀ {ds : List D}, ds.all isFlat = true → (ds.map vOf).all flatV = true
  | [], _ => rfl
  | d :: ds, h => by
    rw [List.all_cons, Bool.and_eq_true] at h
    rw [List.map_cons, List.all_cons, flat_vOf h.1, flats_vOf h.2]; rfl
theorem eqV_vOf {a b : D} (h : isFlat a = true) (k : isFlat b = true) : eqV (vOf a) (vOf b) = flatEq a b := by
  cases a <;> cases b <;> first | rfl | (simp [isFlat] at h; done) | (simp [isFlat] at k; done)
mutual
theorem Rep.dp (g : Glob K F0 ρ Hs st H) : ∀ (d : D) (v : V) (p : PyData), Rep K ρ Hs d v → D.py d = some p → Dp K H v p
  | .non, v, p, r, e => by cases e; cases Rep.non.mp r; exact .non
  | .bl b, v, p, r, e => by cases e; cases Rep.bl.mp r; exact .bl b
  | .int b, v, p, r, e => by cases e; cases Rep.int.mp r; exact .int b
  | .str b, v, p, r, e => by cases e; cases Rep.str.mp r; exact .str b
  | .tup xs, v, p, r, e => by
    obtain ⟨a, vs, rfl, h1, h2⟩ := Rep.tup.mp r
    cases q : D.pyL xs with
    | none => simp [D.py, q] at e
    | some ps =>
      simp [D.py, q] at e
      subst e
      exact .tup (SqT.of (g.tup h1)) (RepL.dp g xs vs ps h2 q)
  | .lst xs, v, p, r, e => by
    obtain ⟨a, vs, rfl, h1, h2⟩ := Rep.lst.mp r
    cases q : D.pyL xs with
    | none => simp [D.py, q] at e
    | some ps =>
      simp [D.py, q] at e
      subst e
      exact .lst (SqL.of (g.lst h1)) (RepL.dp g xs vs ps h2 q)
  | .dK _ _, v, p, r, e => by simp [D.py] at e
  | .dT _ _, v, p, r, e => by simp [D.py] at e
  | .obj _ _ _, v, p, r, e => by simp [D.py] at e
  | .cell _, v, p, r, e => by simp [D.py] at e
  | .scr _, v, p, r, e => by simp [D.py] at e
  | .inst _ _ _ _, v, p, r, e => by simp [D.py] at e
theorem RepL.dp (g : Glob K F0 ρ Hs st H) : ∀ (ds : List D) (vs : List V) (ps : List PyData), RepL K ρ Hs ds vs → D.pyL ds = some ps → DpAll K H vs ps
  | [], vs, ps, r, e => by rw [RepL.nil_iff] at r; subst r; simp [D.pyL] at e; subst e; exact .nil
  | d :: ds, vs, ps, r, e => by
    obtain ⟨v, q, rfl, hx, k⟩ := RepL.cons_iff.mp r
    cases h1 : D.py d with
    | none => simp [D.pyL, h1] at e
    | some p =>
      cases h2 : D.pyL ds with
      | none => simp [D.pyL, h1, h2] at e
      | some qs =>
        simp [D.pyL, h1, h2] at e
        subst e
        exact .cons (Rep.dp g d v p hx h1) (RepL.dp g ds q qs k h2)
end
end
end Q

set_option Elab.async false
set_option linter.all false
set_option maxRecDepth 100000
set_option maxHeartbeats 1000000
namespace Q
open PySem PySem.Spec PyProof.Rows L2
section
variable {X : Cx} {F0 Hs H : Hp} {ρ : List Addr} {st : Store} {d : D} {Q : VK}
theorem op_powW : OpR X (binaryOp .Pow) (rI (fun i j => 0 ≤ j ∧ (Builtin.Int.intBits i : Int) * j ≤ 2 ^ 27) fun i j => .int (i ^ j.toNat)) := by
  intro pins s σ H x y v u Q I rx ry h
  obtain ⟨i, j, rfl, rfl, ⟨h1, h2⟩, q⟩ := h
  obtain ⟨t, rfl⟩ := rx
  obtain ⟨t', rfl⟩ := ry
  exact PyProof.Rows.pow_int h1 h2 ⟨.int _, H, I.tok _, ⟨_, rfl⟩, q⟩
theorem prim_bin {op : Operator} {a b : D} {x y : V} (e : binD op a b = some d) (g : Glob X.K F0 ρ Hs st H) (ra : Rep X.K ρ Hs a x) (rb : Rep X.K ρ Hs b y) (k : Cont X.K F0 ρ Hs st d Q) :
    ∃ r, OpR X (binaryOp op) r ∧ r x y H Q := by
  unfold binD at e
  split at e
  · cases e; cases Rep.int.mp ra; cases Rep.int.mp rb
    exact ⟨_, op_add, _, _, rfl, rfl, k.flat g (Rep.int.mpr rfl)⟩
  · split at e
    · cases e; cases Rep.str.mp ra; cases Rep.str.mp rb
      exact ⟨_, op_add_str, _, _, rfl, rfl, by assumption, k.flat g (Rep.str.mpr rfl)⟩
    · cases e
  · split at e
    · cases e
      obtain ⟨p, vs, rfl, h1, h2⟩ := Rep.lst.mp ra
      obtain ⟨q, us, rfl, h3, h4⟩ := Rep.lst.mp rb
      exact ⟨_, op_cat, p, q, vs, us, rfl, rfl, g.lst h1, g.lst h3, by rw [← h2.length, ← h4.length]; assumption, k.lst g (h2.append h4)⟩
    · cases e
  · split at e
    · rename_i xs ys hc
      cases e
      obtain ⟨p, vs, rfl, h1, h2⟩ := Rep.tup.mp ra
      obtain ⟨q, us, rfl, h3, h4⟩ := Rep.tup.mp rb
      have nil_of : ∀ {zs : List D} {ws : List V}, RepL X.K ρ Hs zs ws → ws = [] → zs = [] := fun {zs ws} h e => List.length_eq_zero_iff.mp (by rw [h.length, e]; rfl)
      refine ⟨_, op_catA, p, q, vs, us, rfl, rfl, SqT.of (g.tup h1), SqT.of (g.tup h3), by rw [← h2.length, ← h4.length]; exact hc, fun z => ?_, fun _ z => ?_, fun _ _ => k.tup g (h2.append h4)⟩
      · cases nil_of h2 z
        exact k.flat g rb
      · cases nil_of h4 z
        rw [List.append_nil] at k
        exact k.flat g ra
    · cases e
  · cases e; cases Rep.int.mp ra; cases Rep.int.mp rb
    exact ⟨_, op_sub, _, _, rfl, rfl, k.flat g (Rep.int.mpr rfl)⟩
  · split at e
    · rename_i hc
      cases e; cases Rep.int.mp ra; cases Rep.int.mp rb
      have h2 := of_decide_eq_true hc
      exact ⟨_, op_mulW, _, _, rfl, rfl, h2, k.flat g (Rep.int.mpr rfl)⟩
    · cases e
  · split at e
    · rename_i hc
      cases e; cases Rep.int.mp ra; cases Rep.int.mp rb
      exact ⟨_, op_mod, _, _, rfl, rfl, hc, k.flat g (Rep.int.mpr rfl)⟩
    · cases e
  · split at e
    · rename_i hc
      cases e; cases Rep.int.mp ra; cases Rep.int.mp rb
      exact ⟨_, op_fdivW, _, _, rfl, rfl, ⟨hc.1, by omega⟩, k.flat g (Rep.int.mpr rfl)⟩
    · cases e
  · split at e
    · rename_i i j hc
      cases e; cases Rep.int.mp ra; cases Rep.int.mp rb
      refine ⟨_, op_powW, _, _, rfl, rfl, ⟨hc.1, ?_⟩, k.flat g (Rep.int.mpr rfl)⟩
      have hb : Builtin.Int.intBits i ≤ i.natAbs.log2 + 1 := by
        unfold Builtin.Int.intBits
        split <;> omega
      have h1 : (Builtin.Int.intBits i : Int) ≤ 1001 := by omega
      have h2 : (Builtin.Int.intBits i : Int) * j ≤ 1001 * 100 := Int.mul_le_mul h1 hc.2.1 hc.1 (by decide)
      exact Int.le_trans h2 (by decide)
    · cases e
  · cases e
theorem pyL_of : ∀ {xs : List D} {p : PyData}, (D.pyL xs).map PyData.list = some p → ∃ ps, D.pyL xs = some ps ∧ p = .list ps := fun {xs p} h => by
  cases q : D.pyL xs with
  | none => rw [q] at h; cases h
  | some ps => rw [q] at h; cases h; exact ⟨ps, rfl, rfl⟩
theorem scal_of {a b : D} (ha : isFlat a = true) (hb : isFlat b = true) : (scal (vOf a) (vOf b) = true ∧ decide (vOf a = vOf b) = flatEq a b) ∨ ∃ p q, D.py a = some p ∧ D.py b = some q ∧ SeqAt.shaped p = true ∧ SeqAt.shaped q = true ∧ PyData.eqv p q = flatEq a b := by
  cases a with
  | non => cases b with
    | non => exact .inl ⟨rfl, rfl⟩
    | bl _ => exact .inl ⟨rfl, by simp [vOf, flatEq]⟩
    | int _ => exact .inl ⟨rfl, by simp [vOf, flatEq]⟩
    | str _ => exact .inl ⟨rfl, by simp [vOf, flatEq]⟩
    | _ => cases hb
  | bl x => cases b with
    | non => exact .inl ⟨rfl, by simp [vOf, flatEq]⟩
    | bl y => exact .inl ⟨rfl, by simp only [vOf, flatEq]; exact L2.dec_bl⟩
    | int y => exact .inr ⟨.bool x, .int y, rfl, rfl, by rfl, by rfl, by simp [PyData.eqv, flatEq]⟩
    | str _ => exact .inl ⟨rfl, by simp [vOf, flatEq]⟩
    | _ => cases hb
  | int x => cases b with
    | non => exact .inl ⟨rfl, by simp [vOf, flatEq]⟩
    | bl y => exact .inr ⟨.int x, .bool y, rfl, rfl, by rfl, by rfl, by simp [PyData.eqv, flatEq]⟩
    | int y => exact .inl ⟨rfl, by simp only [vOf, flatEq]; exact L2.dec_int⟩
    | str _ => exact .inl ⟨rfl, by simp [vOf, flatEq]⟩
    | _ => cases hb
  | str x => cases b with
    | non => exact .inl ⟨rfl, by simp [vOf, flatEq]⟩
    | bl y => exact .inl ⟨rfl, by simp [vOf, flatEq]⟩
    | int y => exact .inl ⟨rfl, by simp [vOf, flatEq]⟩
    | str y => exact .inl ⟨rfl, by simp [vOf, flatEq]; by_cases h : x = y <;> simp [h]⟩
    | _ => cases hb
  | _ => cases ha
theorem prim_eq {a b : D} {x y : V} {c : Bool} (hu : X.A.units + 64 < cLine) (e : eqD a b = some c) (g : Glob X.K F0 ρ Hs st H) (ra : Rep X.K ρ Hs a x) (rb : Rep X.K ρ Hs b y) (k : Q (.bl c) H) :
    ∃ r, OpR X (compareOp .Eq) r ∧ r x y H Q := by
  unfold eqD at e
  split at e
  · rename_i hc
    rw [Bool.and_eq_true] at hc
    cases e
    rcases scal_of hc.1 hc.2 with ⟨h1, h2⟩ | ⟨p, q, h1, h2, h3, h4, h5⟩
    · cases Rep.flat hc.1 ra; cases Rep.flat hc.2 rb
      exact ⟨_, op_eq, h1, by rw [h2]; exact k⟩
    · exact ⟨_, op_eqD hu, p, q, Rep.dp g _ _ _ ra h1, Rep.dp g _ _ _ rb h2, h3, h4, by rw [h5]; exact k⟩
  · split at e
    · rename_i p q h1 h2
      split at e
      · rename_i hc
        rw [Bool.and_eq_true] at hc
        cases e
        exact ⟨_, op_eqD hu, p, q, Rep.dp g _ _ _ ra h1, Rep.dp g _ _ _ rb h2, hc.1, hc.2, k⟩
      · cases e
    · cases e
theorem prim_ne {a b : D} {x y : V} {c : Bool} (hu : X.A.units + 64 < cLine) (e : eqD a b = some c) (g : Glob X.K F0 ρ Hs st H) (ra : Rep X.K ρ Hs a x) (rb : Rep X.K ρ Hs b y) (k : Q (.bl (!c)) H) :
    ∃ r, OpR X (compareOp .NotEq) r ∧ r x y H Q := by
  unfold eqD at e
  split at e
  · rename_i hc
    rw [Bool.and_eq_true] at hc
    cases e
    rcases scal_of hc.1 hc.2 with ⟨h1, h2⟩ | ⟨p, q, h1, h2, h3, h4, h5⟩
    · cases Rep.flat hc.1 ra; cases Rep.flat hc.2 rb
      exact ⟨_, op_ne, h1, by rw [h2]; exact k⟩
    · exact ⟨_, op_neD hu, p, q, Rep.dp g _ _ _ ra h1, Rep.dp g _ _ _ rb h2, h3, h4, by rw [h5]; exact k⟩
  · split at e
    · rename_i p q h1 h2
      split at e
      · rename_i hc
        rw [Bool.and_eq_true] at hc
        cases e
        exact ⟨_, op_neD hu, p, q, Rep.dp g _ _ _ ra h1, Rep.dp g _ _ _ rb h2, hc.1, hc.2, k⟩
      · cases e
    · cases e
theorem op_ltDat (hu : X.A.units + 64 < cLine) : OpR X (compareOp .Lt) (fun x y H Q => ∃ p q, Dp X.K H x p ∧ Dp X.K H y q ∧ PySem.W.alike p q = true ∧ p ≠ .none ∧ p.depth ≤ 64 ∧ Q (.bl (PySem.W.dataLt p q)) H) := by
  intro pins s σ H x y v u Q I rx ry h
  obtain ⟨p, q, hp, hq, al, nn, dp, k⟩ := h
  obtain ⟨as, r1⟩ := Dp.reads I p x v hp rx
  obtain ⟨bs, r2⟩ := Dp.reads I q y u hq ry
  have hd : X.A.units + min p.depth q.depth < cLine := by
    have : min p.depth q.depth ≤ p.depth := Nat.min_le_left _ _
    omega
  exact PySem.W.rcLt_alike p q X.A s v u as bs r1 r2 al nn hd X.prog X.w X.xe _ ⟨.bl _, H, I, rfl, k⟩
theorem prim_lt {a b : D} {x y : V} {c : Bool} (hu : X.A.units + 64 < cLine) (e : ltD a b = some c) (g : Glob X.K F0 ρ Hs st H) (ra : Rep X.K ρ Hs a x) (rb : Rep X.K ρ Hs b y) (k : Q (.bl c) H) :
    ∃ r, OpR X (compareOp .Lt) r ∧ r x y H Q := by
  unfold ltD at e
  split at e
  · cases e; cases Rep.int.mp ra; cases Rep.int.mp rb
    exact ⟨_, op_lt, _, _, rfl, rfl, k⟩
  · cases e; cases Rep.str.mp ra; cases Rep.str.mp rb
    exact ⟨_, op_lt_str, _, _, rfl, rfl, k⟩
  · split at e
    · rename_i p q h1 h2
      split at e
      · rename_i hc
        rw [Bool.and_eq_true] at hc
        cases e
        refine ⟨_, op_ltDat hu, p, q, Rep.dp g _ _ _ ra h1, Rep.dp g _ _ _ rb h2, hc.1, ?_, of_decide_eq_true hc.2, k⟩
        rename_i xs ys
        intro z
        subst z
        simp [D.py] at h1
      · cases e
    · cases e
  · cases e
theorem inV_vOf {x : D} (hx : isFlat x = true) : ∀ {ys : List D}, ys.all isFlat = true → inV (vOf x) (ys.map vOf) = ys.any fun z => flatEq z x
  | [], _ => rfl
  | y :: ys, h => by
    rw [List.all_cons, Bool.and_eq_true] at h
    have := inV_vOf hx h.2
    unfold inV at this ⊢
    rw [List.map_cons, List.any_cons, List.any_cons, this, eqV_vOf h.1 hx]
end
end Q

set_option Elab.async false
set_option linter.all false
set_option maxRecDepth 100000
set_option maxHeartbeats 1000000
namespace Q
open PySem PySem.Spec PyProof.Rows L2
section
variable {X : Cx} {F0 Hs H : Hp} {ρ : List Addr} {st : Store} {d : D} {Q : VK}
/-! ### dict lookups -/
theorem keyOf_rep {K : PySem.W.Frag} {d : D} {k : Key} {v : V} (e : keyOf d = some k) (r : Rep K ρ H d v) : v = kV k := by
  cases d with
  | int i => cases e; exact Rep.int.mp r
  | str i => cases e; exact Rep.str.mp r
  | _ => cases e
theorem keysOf_rep {K : PySem.W.Frag} : ∀ {ds : List D} {ks : List Key} {vs : List V}, keysOf ds = some ks → RepL K ρ H ds vs → vs = ks.map kV
  | [], ks, vs, e, r => by rw [RepL.nil_iff] at r; subst r; cases e; rfl
  | d :: ds, ks, vs, e, r => by
    obtain ⟨v, q, rfl, hx, k⟩ := RepL.cons_iff.mp r
    unfold keysOf at e
    split at e
    · rename_i x r h1 h2
      cases e
      rw [keyOf_rep h1 hx, keysOf_rep h2 k]; rfl
    · cases e
def ORep (K : PySem.W.Frag) (ρ : List Addr) (H : Hp) : Option D → Option V → Prop
  | some x, some v => Rep K ρ H x v
  | none, none => True
  | _, _ => False
theorem valV_rep {K : PySem.W.Frag} {κ : Type} [DecidableEq κ] (k : κ) : ∀ {ks : List κ} {xs : List D} {vs : List V}, ks.length = xs.length → RepL K ρ H xs vs → ORep K ρ H (valD ks xs k) (valV (ks.zip vs) k)
  | [], [], vs, _, r => by rw [RepL.nil_iff] at r; subst r; exact True.intro
  | k' :: ks, x :: xs, vs, hl, r => by
    obtain ⟨v, q, rfl, hx, t⟩ := RepL.cons_iff.mp r
    rw [List.length_cons, List.length_cons] at hl
    have ih := valV_rep (K := K) k (ks := ks) (xs := xs) (by omega) t
    unfold valD
    rw [List.zip_cons_cons]
    by_cases e : k' = k
    · rw [if_pos e, valV_pos (p := (k', v)) e]
      exact hx
    · rw [if_neg e, valV_neg (p := (k', v)) e]
      exact ih
  | [], x :: xs, vs, hl, r => by cases hl
  | k' :: ks, [], vs, hl, r => by cases hl
theorem prim_get {o k : D} {w y : V} {r : Option D} (e : getD o k = some r) (g : Glob X.K F0 ρ Hs st H) (ro : Rep X.K ρ Hs o w) (rk : Rep X.K ρ Hs k y) :
    ∃ a q, w = .ref a ∧ IsD H a ∧ DGet H a y q ∧ ORep X.K ρ Hs r q := by
  cases o with
  | dK ks xs =>
    obtain ⟨a, vs, rfl, hl, h1, h2⟩ := Rep.dK.mp ro
    cases hk : keyOf k with
    | none => simp [getD, hk] at e
    | some q =>
      simp [getD, hk] at e
      subst e
      have rd := (g.at h1).rd
      exact ⟨a, valV (ks.zip vs) q, rfl, .inl ⟨_, rd⟩, .inl ⟨_, q, rd, keyOf_rep hk rk, rfl⟩, valV_rep q hl h2⟩
  | dT ks xs =>
    cases k with
    | tup ys =>
      obtain ⟨a, vs, rfl, hl, h1, h2⟩ := Rep.dT.mp ro
      cases hk : keysOf ys with
      | none => simp [getD, hk] at e
      | some q =>
        simp [getD, hk] at e
        subst e
        obtain ⟨b, us, rfl, h3, h4⟩ := Rep.tup.mp rk
        have rd := (g.at h1).rd
        exact ⟨a, valV (ks.zip vs) q, rfl, .inr ⟨_, rd⟩, .inr ⟨_, q, b, rd, rfl, by rw [← keysOf_rep hk h4]; exact g.tup h3, rfl⟩, valV_rep q hl h2⟩
    | _ => simp [getD] at e
  | _ => simp [getD] at e
/-! ### in -/
theorem prim_in {a b : D} {x y : V} {c : Bool} (hu : X.A.units + 65 < cLine) (e : inD a b = some c) (hn : ∀ ks xs, b ≠ .dK ks xs) (hn2 : ∀ ks xs, b ≠ .dT ks xs) (g : Glob X.K F0 ρ Hs st H) (ra : Rep X.K ρ Hs a x) (rb : Rep X.K ρ Hs b y) :
    (Q (.bl c) H → ∃ r, OpR X (compareOp .In) r ∧ r x y H Q) ∧ (Q (.bl (!c)) H → ∃ r, OpR X (compareOp .NotIn) r ∧ r x y H Q) := by
  unfold inD at e
  split at e
  · rename_i ys
    obtain ⟨p, vs, rfl, h1, h2⟩ := Rep.lst.mp rb
    split at e
    · rename_i hc
      rw [Bool.and_eq_true] at hc
      cases e
      cases Rep.flat hc.1 ra
      have e1 := RepL.flat hc.2 h2
      subst e1
      refine ⟨fun k => ⟨_, op_in_seq, p, _, rfl, .inl (SqL.of (g.lst h1)), flat_vOf hc.1, flats_vOf hc.2, ?_⟩, fun k => ⟨_, op_notIn_seq, p, _, rfl, .inl (SqL.of (g.lst h1)), flat_vOf hc.1, flats_vOf hc.2, ?_⟩⟩
      · rw [inV_vOf hc.1 hc.2]; exact k
      · rw [inV_vOf hc.1 hc.2]; exact k
    · split at e
      · rename_i pd qs h3 h4
        split at e
        · rename_i hc
          rw [Bool.and_eq_true] at hc
          cases e
          exact ⟨fun k => ⟨_, op_inD hu, pd, qs, Rep.dp g _ _ _ ra h3, .lst (SqL.of (g.lst h1)) (RepL.dp g _ _ _ h2 h4), hc.1, hc.2, k⟩,
            fun k => ⟨_, op_notInD hu, pd, qs, Rep.dp g _ _ _ ra h3, .lst (SqL.of (g.lst h1)) (RepL.dp g _ _ _ h2 h4), hc.1, hc.2, k⟩⟩
        · cases e
      · cases e
  · rename_i ys
    obtain ⟨p, vs, rfl, h1, h2⟩ := Rep.tup.mp rb
    split at e
    · rename_i hc
      rw [Bool.and_eq_true] at hc
      cases e
      cases Rep.flat hc.1 ra
      have e1 := RepL.flat hc.2 h2
      subst e1
      refine ⟨fun k => ⟨_, op_in_seq, p, _, rfl, .inr (SqT.of (g.tup h1)), flat_vOf hc.1, flats_vOf hc.2, ?_⟩, fun k => ⟨_, op_notIn_seq, p, _, rfl, .inr (SqT.of (g.tup h1)), flat_vOf hc.1, flats_vOf hc.2, ?_⟩⟩
      · rw [inV_vOf hc.1 hc.2]; exact k
      · rw [inV_vOf hc.1 hc.2]; exact k
    · cases e
  · exact absurd rfl (hn _ _)
  · exact absurd rfl (hn2 _ _)
  · rename_i z
    split at e
    · rename_i cs
      split at e
      · rename_i q hq
        cases e
        cases Rep.str.mp ra
        cases Rep.str.mp rb
        have ec : cs = ⟨#[q]⟩ := by
          obtain ⟨⟨l⟩⟩ := cs
          simp at hq
          subst hq
          rfl
        subst ec
        exact ⟨fun k => ⟨_, op_in_sign, q, z, rfl, rfl, k⟩, fun k => ⟨_, op_notIn_sign, q, z, rfl, rfl, k⟩⟩
      · cases e
    · cases e
  · cases e
/-! ### subscripts, slices -/
theorem atI_rep {K : PySem.W.Frag} {xs : List D} {vs : List V} {i : Int} {d : D} (r : RepL K ρ H xs vs) (e : atI xs i = some d) : ∃ v, atI vs i = some v ∧ Rep K ρ H d v := by
  unfold atI at e ⊢
  rw [← r.length]
  cases q : ixN xs.length i with
  | none => rw [q] at e; cases e
  | some j =>
    rw [q] at e
    exact r.get e
theorem atI_map {α β : Type} (f : α → β) {xs : List α} {i : Int} {x : α} (e : atI xs i = some x) : atI (xs.map f) i = some (f x) := by
  unfold atI at e ⊢
  rw [List.length_map]
  cases q : ixN xs.length i with
  | none => rw [q] at e; cases e
  | some j =>
    rw [q] at e
    show (xs.map f)[j]? = _
    rw [List.getElem?_map, show xs[j]? = some x from e]; rfl
theorem prim_sub {a i : D} {x y : V} (e : subD st a i = some d) (hn : ∀ ks xs, a ≠ .dK ks xs) (hn2 : ∀ ks xs, a ≠ .dT ks xs) (g : Glob X.K F0 ρ Hs st H) (ra : Rep X.K ρ Hs a x) (rb : Rep X.K ρ Hs i y) (k : Cont X.K F0 ρ Hs st d Q) :
    ∃ r, IxR X r ∧ r x y H Q := by
  unfold subD at e
  split at e
  · obtain ⟨p, vs, rfl, h1, h2⟩ := Rep.lst.mp ra
    cases Rep.int.mp rb
    obtain ⟨v, e1, e2⟩ := atI_rep h2 e
    exact ⟨_, ix_list, p, vs, _, v, rfl, rfl, SqL.of (g.lst h1), e1, k.flat g e2⟩
  · obtain ⟨p, vs, rfl, h1, h2⟩ := Rep.tup.mp ra
    cases Rep.int.mp rb
    obtain ⟨v, e1, e2⟩ := atI_rep h2 e
    exact ⟨_, ix_tup, p, vs, _, v, rfl, rfl, SqT.of (g.tup h1), e1, k.flat g e2⟩
  · rename_i s j
    split at e
    · rename_i hc
      cases Rep.str.mp ra
      cases Rep.int.mp rb
      cases q : atI s.cps.toList j with
      | none => rw [q] at e; cases e
      | some c => rw [q] at e; cases e; exact ⟨_, ix_str, s, j, c, rfl, rfl, hc, q, k.flat g (Rep.str.mpr rfl)⟩
    · cases e
  · rename_i ns j
    obtain ⟨p, rfl, h1⟩ := Rep.scr.mp ra
    cases Rep.int.mp rb
    cases q : atI ns j with
    | none => rw [q] at e; cases e
    | some c => rw [q] at e; cases e; exact ⟨_, ix_list, p, _, j, .int c, rfl, rfl, g.scr h1, atI_map _ q, k.flat g (Rep.int.mpr rfl)⟩
  · rename_i c j
    split at e
    · rename_i ns hs
      obtain ⟨p, h0, rfl⟩ := Rep.cell.mp ra
      obtain ⟨a, h1, h2, h3⟩ := g.cell c ns hs
      rw [h0] at h1
      cases h1
      cases Rep.int.mp rb
      cases q : atI ns j with
      | none => rw [q] at e; cases e
      | some c => rw [q] at e; cases e; exact ⟨_, ix_list, p, _, j, .int c, rfl, rfl, SqL.of h2, atI_map _ q, k.flat g (Rep.int.mpr rfl)⟩
    · cases e
  · exact absurd rfl (hn _ _)
  · exact absurd rfl (hn2 _ _)
  · cases e
theorem cut_rep {K : PySem.W.Frag} {xs : List D} {vs : List V} (lo hi : Option Int) (r : RepL K ρ H xs vs) : RepL K ρ H (cutD xs lo hi) (cutV vs lo hi) := by
  unfold cutD cutV
  rw [r.length]
  exact (r.drop _).take _
theorem prim_slice {a : D} {x : V} {lo hi : Option Int} (e : sliceD a lo hi = some d) (g : Glob X.K F0 ρ Hs st H) (ra : Rep X.K ρ Hs a x) (k : Cont X.K F0 ρ Hs st d Q) : ∃ r, SlR X r ∧ r x lo hi H Q := by
  unfold sliceD at e
  split at e
  · cases e
    obtain ⟨p, vs, rfl, h1, h2⟩ := Rep.lst.mp ra
    exact ⟨_, sl_list, p, vs, rfl, SqL.of (g.lst h1), k.lst g (cut_rep lo hi h2)⟩
  · cases e
    obtain ⟨p, vs, rfl, h1, h2⟩ := Rep.tup.mp ra
    refine ⟨_, sl_tupA, p, vs, rfl, SqT.of (g.tup h1), fun hw => ?_, fun _ => k.tup g (cut_rep lo hi h2)⟩
    rename_i xs
    have e1 : cutD xs lo hi = xs := by
      unfold cutD
      rw [h2.length, hw.1, hw.2, List.drop_zero, Nat.sub_zero, ← h2.length, List.take_length]
    rw [e1] at k
    exact k.flat g ra
  · split at e
    · cases e
      cases Rep.str.mp ra
      exact ⟨_, sl_str, _, rfl, by assumption, k.flat g (Rep.str.mpr rfl)⟩
    · cases e
  · cases e
/-! ### built-ins -/
theorem boolsOf_rep {K : PySem.W.Frag} : ∀ {ds : List D} {bs : List Bool} {vs : List V}, boolsOf ds = some bs → RepL K ρ H ds vs → vs = bs.map V.bl
  | [], bs, vs, e, r => by rw [RepL.nil_iff] at r; subst r; cases e; rfl
  | d :: ds, bs, vs, e, r => by
    obtain ⟨v, q, rfl, hx, k⟩ := RepL.cons_iff.mp r
    cases d with
    | bl b =>
      cases h : boolsOf ds with
      | none => simp [boolsOf, h] at e
      | some cs => simp [boolsOf, h] at e; subst e; cases Rep.bl.mp hx; rw [boolsOf_rep h k]; rfl
    | _ => simp [boolsOf] at e
theorem intsOf_rep {K : PySem.W.Frag} : ∀ {ds : List D} {bs : List Int} {vs : List V}, intsOf ds = some bs → RepL K ρ H ds vs → vs = bs.map V.int
  | [], bs, vs, e, r => by rw [RepL.nil_iff] at r; subst r; cases e; rfl
  | d :: ds, bs, vs, e, r => by
    obtain ⟨v, q, rfl, hx, k⟩ := RepL.cons_iff.mp r
    cases d with
    | int b =>
      cases h : intsOf ds with
      | none => simp [intsOf, h] at e
      | some cs => simp [intsOf, h] at e; subst e; cases Rep.int.mp hx; rw [intsOf_rep h k]; rfl
    | _ => simp [intsOf] at e
theorem strsOf_rep {K : PySem.W.Frag} : ∀ {ds : List D} {bs : List Str} {vs : List V}, strsOf ds = some bs → RepL K ρ H ds vs → vs = bs.map V.str
  | [], bs, vs, e, r => by rw [RepL.nil_iff] at r; subst r; cases e; rfl
  | d :: ds, bs, vs, e, r => by
    obtain ⟨v, q, rfl, hx, k⟩ := RepL.cons_iff.mp r
    cases d with
    | str b =>
      cases h : strsOf ds with
      | none => simp [strsOf, h] at e
      | some cs => simp [strsOf, h] at e; subst e; cases Rep.str.mp hx; rw [strsOf_rep h k]; rfl
    | _ => simp [strsOf] at e
end
end Q

set_option Elab.async false
set_option linter.all false
set_option maxRecDepth 100000
set_option maxHeartbeats 1000000
namespace Q
open PySem PySem.Spec PyProof.Rows L2
def bnames : List Str := ["len", "abs", "all", "any", "sum", "max", "min", "int", "tuple", "list", "range", "enumerate"]
def bnames2 : List Str := ["zip", "isinstance", "sorted", "set", "str", "bool", "repr", "dict"]
/-- a built-in's value -/
inductive BV : Value → Prop where
  | fn (id : String) : BV (.builtin id)
  | ty (T : String) : BV (.type T)
section
variable {X : Cx} {F0 Hs H : Hp} {ρ : List Addr} {st : Store} {d : D} {Q : VK}
theorem RepL.one {K : PySem.W.Frag} {d : D} {vs : List V} (r : RepL K ρ H [d] vs) : ∃ v, vs = [v] ∧ Rep K ρ H d v := by
  obtain ⟨v, q, rfl, hx, k⟩ := RepL.cons_iff.mp r
  rw [RepL.nil_iff] at k; subst k
  exact ⟨v, rfl, hx⟩
theorem RepL.two {K : PySem.W.Frag} {d e : D} {vs : List V} (r : RepL K ρ H [d, e] vs) : ∃ v u, vs = [v, u] ∧ Rep K ρ H d v ∧ Rep K ρ H e u := by
  obtain ⟨v, q, rfl, hx, k⟩ := RepL.cons_iff.mp r
  obtain ⟨u, rfl, hy⟩ := RepL.one k
  exact ⟨v, u, rfl, hx, hy⟩
/-- the length of a dict that may be locked -/
theorem call_lenRd : CallR X (.builtin "len") (fun xs H Q => ∃ a kvs, xs = [V.ref a] ∧ Rd H a (.dK kvs) ∧ Q (.int kvs.length) H) := by
  intro pins s σ H xs us Q I r h
  obtain ⟨a, kvs, rfl, ha, q⟩ := h
  obtain ⟨u, rfl, ru⟩ := vals1 r
  cases ru
  exact d_len I ha fun t s' I' => ⟨.int kvs.length, H, I', ⟨t, rfl⟩, q⟩
theorem cr_repr (hg : X.A.guards = some []) : CallR X (.builtin "repr") (fun vs H Q => ∃ x p, vs = [x] ∧ Dp X.K H x p ∧ p.showable = true ∧ p.hasDict = false ∧ p.shown.length ≤ sizeLine ∧ X.A.units + (p.depth + 1) < cLine ∧ Q (.str p.shown) H) := by
  intro pins s σ H xs us Q I r h
  obtain ⟨x, p, rfl, hp, hs, hd, hz, hu, q⟩ := h
  obtain ⟨u, rfl, ru⟩ := vals1 r
  obtain ⟨as, rd⟩ := Dp.reads I p x u hp ru
  cases rd with
  | none => exact P.repr_of_none ⟨.str _, H, I.tok _, ⟨_, rfl⟩, q⟩
  | bool b => exact P.repr_of_bool ⟨.str _, H, I.tok _, ⟨_, rfl⟩, q⟩
  | int i t =>
    simp only [PyData.showable, decide_eq_true_eq] at hs
    exact P.repr_of_int hs ⟨.str _, H, I.tok _, ⟨_, rfl⟩, q⟩
  | str y t => exact P.repr_of_str ⟨.str _, H, I.tok _, ⟨_, rfl⟩, q⟩ hz
  | list h1 h2 h3 h4 => exact repr_of_reads' (.list h1 h2 h3 h4) hs (fun z => by rw [hd] at z; cases z) hg hu (fun _ _ e => e) (fun h' u tk kp => ⟨.str _, H, I.kept kp, ⟨_, rfl⟩, q⟩) hz
  | tuple h1 h2 h3 h4 => exact repr_of_reads' (.tuple h1 h2 h3 h4) hs (fun z => by rw [hd] at z; cases z) hg hu (fun _ _ e => e) (fun h' u tk kp => ⟨.str _, H, I.kept kp, ⟨_, rfl⟩, q⟩) hz
  | dict h1 h2 h3 h4 h5 => exact repr_of_reads' (.dict h1 h2 h3 h4 h5) hs (fun z => by rw [hd] at z; cases z) hg hu (fun _ _ e => e) (fun h' u tk kp => ⟨.str _, H, I.kept kp, ⟨_, rfl⟩, q⟩) hz
theorem trip_of {K : PySem.W.Frag} : ∀ {xs : List D} {vs : List V} {ps : List PyData}, RepL K ρ H xs vs → D.pyL xs = some ps → ∃ zs : List (D × (V × PyData)), zs.map (·.1) = xs ∧ zs.map (·.2.1) = vs ∧ zs.map (·.2.2) = ps ∧ ∀ z ∈ zs, D.py z.1 = some z.2.2 ∧ Rep K ρ H z.1 z.2.1
  | [], vs, ps, r, e => by rw [RepL.nil_iff] at r; subst r; cases e; exact ⟨[], rfl, rfl, rfl, fun z hz => absurd hz List.not_mem_nil⟩
  | d :: ds, vs, ps, r, e => by
    obtain ⟨v, q, rfl, hx, k⟩ := RepL.cons_iff.mp r
    cases h1 : D.py d with
    | none => simp [D.pyL, h1] at e
    | some p =>
      cases h2 : D.pyL ds with
      | none => simp [D.pyL, h1, h2] at e
      | some qs =>
        simp [D.pyL, h1, h2] at e
        subst e
        obtain ⟨zs, e1, e2, e3, e4⟩ := trip_of k h2
        refine ⟨(d, (v, p)) :: zs, by rw [List.map_cons, e1], by rw [List.map_cons, e2], by rw [List.map_cons, e3], fun z hz => ?_⟩
        rcases List.mem_cons.mp hz with rfl | hz
        · exact ⟨h1, hx⟩
        · exact e4 z hz
theorem RepL.of_map {K : PySem.W.Frag} {α : Type} {f : α → D} {g : α → V} : ∀ {l : List α}, (∀ z ∈ l, Rep K ρ H (f z) (g z)) → RepL K ρ H (l.map f) (l.map g)
  | [], _ => .nil
  | z :: l, h => .cons (h z (List.mem_cons_self ..)) (RepL.of_map fun y hy => h y (List.mem_cons_of_mem _ hy))
theorem prim_sort {xs : List D} {v : V} (hu : X.A.units + 100 < cLine) (e : sortD xs = some d) (g : Glob X.K F0 ρ Hs st H) (r : Rep X.K ρ Hs (.lst xs) v) (k : Cont X.K F0 ρ Hs st d Q) :
    ∃ r, CallR X (.builtin "sorted") r ∧ r [v] H Q := by
  unfold sortD at e
  split at e
  · rename_i ps hp
    split at e
    · rename_i hc
      rw [Bool.and_eq_true, Bool.and_eq_true] at hc
      obtain ⟨h1, h2, h3⟩ := hc
      cases e
      obtain ⟨p, vs, rfl, h4, h5⟩ := Rep.lst.mp r
      obtain ⟨zs, e1, e2, e3, e4⟩ := trip_of h5 hp
      have eb : (zs.map (·.2)).map (·.2) = ps := by rw [List.map_map]; exact e3
      refine ⟨_, cr_sortD, p, zs.map (·.2), rfl, ?_, fun b hb => ?_, ?_, ?_, fun b hb => ?_, fun p' hp' => ?_⟩
      · rw [List.map_map]
        rw [← e2] at h4
        exact SqL.of (g.lst h4)
      · obtain ⟨z, hz, rfl⟩ := List.mem_map.mp hb
        exact Rep.dp g _ _ _ (e4 z hz).2 (e4 z hz).1
      · rw [eb]
        intro a ha b hb
        exact List.all_eq_true.mp (List.all_eq_true.mp h1 a ha) b hb
      · rw [eb]
        unfold sortableB at h2
        rw [Bool.or_eq_true] at h2
        rcases h2 with h2 | h2
        · refine .inl fun a ha => ?_
          have := List.all_eq_true.mp h2 a ha
          split at this
          · exact ⟨_, _, rfl⟩
          · cases this
        · refine .inr fun a ha => ?_
          have := List.all_eq_true.mp h2 a ha
          refine ⟨fun z => ?_, fun xs z => ?_⟩
          · subst z; cases this
          · subst z; cases this
      · have hm : b.2 ∈ ps := by rw [← eb]; exact List.mem_map.mpr ⟨b, hb, rfl⟩
        have := of_decide_eq_true (List.all_eq_true.mp h3 b.2 hm)
        omega
      · have s1 : (zs.map (·.2)).mergeSort (PySem.W.dataLe false (·.2)) = (zs.mergeSort fun a b => PySem.W.dataLe false (·.2) a.2 b.2).map (·.2) := (List.map_mergeSort (f := fun z : D × (V × PyData) => z.2) (l := zs) (r := fun a b => PySem.W.dataLe false (·.2) a.2 b.2) (s := PySem.W.dataLe false (·.2)) fun a _ b _ => rfl).symm
        have s2 : xs.mergeSort leP = (zs.mergeSort fun a b => PySem.W.dataLe false (·.2) a.2 b.2).map (·.1) := by
          rw [← e1]
          refine (List.map_mergeSort fun a ha b hb => ?_).symm
          unfold leP
          rw [(e4 a ha).1, (e4 b hb).1]; rfl
        rw [s1, List.map_map]
        rw [s2] at k
        refine k.lst g (RepL.of_map fun z hz => ?_) p' hp'
        exact (e4 z ((List.mergeSort_perm _ _).mem_iff.mp hz)).2
    · cases e
  · cases e
theorem prim_repr {v : V} (hu : X.A.units + 100 < cLine) (hg : X.A.guards = some []) {a : D} (e : reprD a = some d) (g : Glob X.K F0 ρ Hs st H) (r : Rep X.K ρ Hs a v) (k : Cont X.K F0 ρ Hs st d Q) :
    ∃ r, CallR X (.builtin "repr") r ∧ r [v] H Q := by
  unfold reprD at e
  split at e
  · rename_i p hp
    split at e
    · rename_i hc
      rw [Bool.and_eq_true, Bool.and_eq_true, Bool.and_eq_true, decide_eq_true_eq, decide_eq_true_eq, Bool.not_eq_true'] at hc
      cases e
      exact ⟨_, cr_repr hg, v, p, rfl, Rep.dp g _ _ _ r hp, hc.1.1, hc.2, hc.1.2.1, by have := hc.1.2.2; omega, k.flat g (Rep.str.mpr rfl)⟩
    · cases e
  · cases e
theorem rep_key7 {K : PySem.W.Frag} (k : Key) : Rep K ρ H (keyD k) (kV k) := by
  cases k with
  | inl i => exact Rep.int.mpr rfl
  | inr i => exact Rep.str.mpr rfl
theorem rep_keys7 {K : PySem.W.Frag} : ∀ (ks : List Key), RepL K ρ H (ks.map keyD) (ks.map kV)
  | [] => .nil
  | k :: ks => .cons (rep_key7 k) (rep_keys7 ks)
/-- a tuple of flat things that stands somewhere is data -/
theorem tup_in {K : PySem.W.Frag} {q : Addr} {k : List Key} (g : Glob K F0 ρ Hs st H) (w4 : H q = some (.tup (k.map kV))) : ∃ Hs', Ext ρ Hs ρ Hs' ∧ Glob K F0 ρ Hs' st H ∧ Rep K ρ Hs' (tupD k) (.ref q) := by
  cases hs : Hs q with
  | some u =>
    have e2 : u = .tup (k.map kV) := by
      have z := g.le q u hs
      rw [w4] at z; cases z; rfl
    subst e2
    exact ⟨Hs, Ext.refl _ _, g, Rep.tup.mpr ⟨q, _, rfl, hs, rep_keys7 k⟩⟩
  | none =>
    have hf : F0 q = none := by
      cases z : F0 q with
      | none => rfl
      | some u =>
        obtain ⟨z1, _, _, z4⟩ := g.foe q u z
        rw [w4] at z1
        cases z1
        exact absurd rfl (z4 _)
    have hc : q ∉ ρ := fun hm => by
      obtain ⟨j, hj, e3⟩ := List.mem_iff_getElem.mp hm
      have hj2 : j < st.length := g.len ▸ hj
      obtain ⟨a', h3, h4, _⟩ := g.cell j st[j] (List.getElem?_eq_getElem hj2)
      rw [List.getElem?_eq_getElem hj, e3] at h3
      cases h3
      rw [w4] at h4
      cases h4
    exact ⟨upd Hs q (.tup (k.map kV)), Ext.upd hs, g.freeze w4 hs hf hc, Rep.tup.mpr ⟨q, _, rfl, upd_same, rep_keys7 k⟩⟩
theorem tups_in {K : PySem.W.Frag} : ∀ {ks : List (List Key)} {vs : List V} {bs : List Addr} {Hs : Hp}, ks.length = vs.length → Glob K F0 ρ Hs st H → IsKeys H (ks.zip vs) bs → ∃ Hs', Ext ρ Hs ρ Hs' ∧ Glob K F0 ρ Hs' st H ∧ RepL K ρ Hs' (ks.map tupD) (bs.map V.ref)
  | [], vs, bs, Hs, hl, g, r => by
    cases vs with
    | nil => cases r; exact ⟨Hs, Ext.refl _ _, g, .nil⟩
    | cons _ _ => cases hl
  | k :: ks, [], bs, Hs, hl, g, r => by cases hl
  | k :: ks, v :: vs, bs, Hs, hl, g, r => by
    rw [List.zip_cons_cons] at r
    cases r with
    | cons h t =>
      obtain ⟨Hs1, e1, g1, r1⟩ := tup_in g h
      obtain ⟨Hs2, e2, g2, r2⟩ := tups_in (by simpa using hl) g1 t
      exact ⟨Hs2, e1.trans e2, g2, .cons (e2.rep r1) r2⟩
theorem prim_list {ds : List D} {vs : List V} (hc : X.calm = true) (e : listD ds = some d) (g : Glob X.K F0 ρ Hs st H) (r : RepL X.K ρ Hs ds vs) (k : Cont X.K F0 ρ Hs st d Q) : ∃ r, CallR X (.type "list") r ∧ r vs H Q := by
  unfold listD at e
  split at e
  · cases e
    obtain ⟨v, rfl, hx⟩ := RepL.one r
    obtain ⟨p, ws, rfl, hl, h1, h2⟩ := Rep.dK.mp hx
    refine ⟨_, call_listD hc, p, _, rfl, (g.at h1).rd, ?_⟩
    rename_i ks xs
    have e1 : (ks.zip ws).map (fun kv => kV kv.1) = ks.map kV := by
      rw [show (fun kv : Key × V => kV kv.1) = kV ∘ Prod.fst from rfl, ← List.map_map, List.map_fst_zip (by rw [hl, h2.length]; exact Nat.le_refl _)]
    rw [e1]
    exact k.lst g (rep_keys7 _)
  · cases e
    obtain ⟨v, rfl, hx⟩ := RepL.one r
    obtain ⟨p, ws, rfl, hl, h1, h2⟩ := Rep.dT.mp hx
    refine ⟨_, call_list_dT hc, p, _, rfl, (g.at h1).rd, fun q bs hq hk => ?_⟩
    obtain ⟨Hs', e1, g1, r1⟩ := tups_in (by rw [hl, h2.length]) g hk
    exact (k.mono e1).lst g1 r1 q hq
  · cases e
theorem prim_blt2 {f : Str} {ds : List D} {vs : List V} (hu : X.A.units + 100 < cLine) (hg : X.A.guards = some []) (e : bltD2 f ds = some d) (g : Glob X.K F0 ρ Hs st H) (r : RepL X.K ρ Hs ds vs) (k : Cont X.K F0 ρ Hs st d Q) :
    ∃ u, bootBuiltins f = some u ∧ BV u ∧ ∃ r, CallR X u r ∧ r vs H Q := by
  unfold bltD2 at e
  split at e
  · rename_i hf
    subst hf
    refine ⟨.builtin "sorted", by decide +kernel, .fn _, ?_⟩
    split at e
    · obtain ⟨v, rfl, hx⟩ := RepL.one r
      exact prim_sort hu e g hx k
    · cases e
  · split at e
    · rename_i hf
      subst hf
      refine ⟨.builtin "repr", by decide +kernel, .fn _, ?_⟩
      split at e
      · obtain ⟨v, rfl, hx⟩ := RepL.one r
        exact prim_repr hu hg e g hx k
      · cases e
    · cases e
theorem prim_blt {f : Str} {ds : List D} {vs : List V} (hc : X.calm = true) (hu : X.A.units + 100 < cLine) (hg : X.A.guards = some []) (e : bltD f ds = some d) (g : Glob X.K F0 ρ Hs st H) (r : RepL X.K ρ Hs ds vs) (k : Cont X.K F0 ρ Hs st d Q) :
    ∃ u, bootBuiltins f = some u ∧ BV u ∧ ∃ r, CallR X u r ∧ r vs H Q := by
  unfold bltD at e
  split at e
  · rename_i hf
    subst hf
    refine ⟨.builtin "len", PySem.boot_len, .fn _, ?_⟩
    split at e
    · cases e
      obtain ⟨v, rfl, hx⟩ := RepL.one r
      obtain ⟨p, ws, rfl, h1, h2⟩ := Rep.lst.mp hx
      exact ⟨_, call_len_seq, p, ws, rfl, .inl (SqL.of (g.lst h1)), by rw [← h2.length]; exact k.flat g (Rep.int.mpr rfl)⟩
    · cases e
      obtain ⟨v, rfl, hx⟩ := RepL.one r
      obtain ⟨p, ws, rfl, h1, h2⟩ := Rep.tup.mp hx
      exact ⟨_, call_len_seq, p, ws, rfl, .inr (SqT.of (g.tup h1)), by rw [← h2.length]; exact k.flat g (Rep.int.mpr rfl)⟩
    · cases e
      obtain ⟨v, rfl, hx⟩ := RepL.one r
      obtain ⟨p, rfl, h1⟩ := Rep.scr.mp hx
      exact ⟨_, call_len_seq, p, _, rfl, .inl (g.scr h1), by rw [List.length_map]; exact k.flat g (Rep.int.mpr rfl)⟩
    · cases e
      obtain ⟨v, rfl, hx⟩ := RepL.one r
      obtain ⟨p, ws, rfl, hl, h1, h2⟩ := Rep.dK.mp hx
      refine ⟨_, call_lenRd, p, _, rfl, (g.at h1).rd, ?_⟩
      rw [List.length_zip, ← h2.length, ← hl, Nat.min_self]
      exact k.flat g (Rep.int.mpr rfl)
    · split at e
      · cases e
        obtain ⟨v, rfl, hx⟩ := RepL.one r
        cases Rep.str.mp hx
        exact ⟨_, call_len_str, _, rfl, by assumption, k.flat g (Rep.int.mpr rfl)⟩
      · cases e
    · cases e
  · split at e
    · rename_i hf
      subst hf
      refine ⟨.builtin "abs", by decide +kernel, .fn _, ?_⟩
      split at e
      · cases e
        obtain ⟨v, rfl, hx⟩ := RepL.one r
        cases Rep.int.mp hx
        exact ⟨_, call_abs, _, rfl, k.flat g (Rep.int.mpr rfl)⟩
      · cases e
    · split at e
      · rename_i hf
        subst hf
        refine ⟨.builtin "all", by decide +kernel, .fn _, ?_⟩
        split at e
        · rename_i xs
          obtain ⟨v, rfl, hx⟩ := RepL.one r
          obtain ⟨p, ws, rfl, h1, h2⟩ := Rep.lst.mp hx
          cases hb : boolsOf xs with
          | none => rw [hb] at e; cases e
          | some bs =>
            rw [hb] at e
            cases e
            cases boolsOf_rep hb h2
            exact ⟨_, cr_all hc, p, bs, rfl, SqL.of (g.lst h1), k.flat g (Rep.bl.mpr rfl)⟩
        · cases e
      · split at e
        · rename_i hf
          subst hf
          refine ⟨.builtin "any", by decide +kernel, .fn _, ?_⟩
          split at e
          · rename_i xs
            obtain ⟨v, rfl, hx⟩ := RepL.one r
            obtain ⟨p, ws, rfl, h1, h2⟩ := Rep.lst.mp hx
            cases hb : boolsOf xs with
            | none => rw [hb] at e; cases e
            | some bs =>
              rw [hb] at e
              cases e
              cases boolsOf_rep hb h2
              exact ⟨_, cr_any hc, p, bs, rfl, SqL.of (g.lst h1), k.flat g (Rep.bl.mpr rfl)⟩
          · cases e
        · split at e
          · rename_i hf
            subst hf
            refine ⟨.builtin "sum", by decide +kernel, .fn _, ?_⟩
            split at e
            · rename_i xs
              obtain ⟨v, rfl, hx⟩ := RepL.one r
              obtain ⟨p, ws, rfl, h1, h2⟩ := Rep.lst.mp hx
              cases hb : intsOf xs with
              | none => rw [hb] at e; cases e
              | some bs =>
                rw [hb] at e
                cases e
                cases intsOf_rep hb h2
                exact ⟨_, cr_sum hc, p, bs, rfl, SqL.of (g.lst h1), k.flat g (Rep.int.mpr rfl)⟩
            · cases e
          · split at e
            · rename_i hf
              subst hf
              refine ⟨.builtin "max", by decide +kernel, .fn _, ?_⟩
              split at e
              · cases e
                obtain ⟨v, u, rfl, hx, hy⟩ := RepL.two r
                cases Rep.int.mp hx
                cases Rep.int.mp hy
                exact ⟨_, call_max2 hc, _, _, rfl, k.flat g (Rep.int.mpr rfl)⟩
              · cases e
            · split at e
              · rename_i hf
                subst hf
                refine ⟨.builtin "min", by decide +kernel, .fn _, ?_⟩
                split at e
                · cases e
                  obtain ⟨v, u, rfl, hx, hy⟩ := RepL.two r
                  cases Rep.int.mp hx
                  cases Rep.int.mp hy
                  exact ⟨_, call_min2 hc, _, _, rfl, k.flat g (Rep.int.mpr rfl)⟩
                · cases e
              · split at e
                · rename_i hf
                  subst hf
                  refine ⟨.type "int", by decide +kernel, .ty _, ?_⟩
                  split at e
                  · cases e
                    obtain ⟨v, rfl, hx⟩ := RepL.one r
                    cases Rep.int.mp hx
                    exact ⟨_, call_int1, .inl ⟨_, rfl, k.flat g (Rep.int.mpr rfl)⟩⟩
                  · cases e
                    obtain ⟨v, rfl, hx⟩ := RepL.one r
                    cases Rep.bl.mp hx
                    exact ⟨_, call_int1, .inr ⟨_, rfl, k.flat g (Rep.int.mpr rfl)⟩⟩
                  · cases e
                · split at e
                  · rename_i hf
                    subst hf
                    refine ⟨.type "tuple", by decide +kernel, .ty _, ?_⟩
                    split at e
                    · cases e
                      obtain ⟨v, rfl, hx⟩ := RepL.one r
                      obtain ⟨p, ws, rfl, h1, h2⟩ := Rep.lst.mp hx
                      exact ⟨_, call_tuple_of, p, ws, rfl, .inl ⟨SqL.of (g.lst h1), k.tup g h2⟩⟩
                    · cases e
                      obtain ⟨v, rfl, hx⟩ := RepL.one r
                      obtain ⟨p, ws, rfl, h1, h2⟩ := Rep.tup.mp hx
                      exact ⟨_, call_tuple_of, p, ws, rfl, .inr ⟨SqT.of (g.tup h1), k.flat g hx⟩⟩
                    · cases e
                  · split at e
                    · rename_i hf
                      subst hf
                      refine ⟨.type "list", by decide +kernel, .ty _, ?_⟩
                      split at e
                      · cases e
                        obtain ⟨v, rfl, hx⟩ := RepL.one r
                        obtain ⟨p, ws, rfl, h1, h2⟩ := Rep.lst.mp hx
                        exact ⟨_, call_list_of, p, ws, rfl, .inl (SqL.of (g.lst h1)), k.lst g h2⟩
                      · cases e
                        obtain ⟨v, rfl, hx⟩ := RepL.one r
                        obtain ⟨p, ws, rfl, h1, h2⟩ := Rep.tup.mp hx
                        exact ⟨_, call_list_of, p, ws, rfl, .inr (SqT.of (g.tup h1)), k.lst g h2⟩
                      · exact prim_list hc e g r k
                    · exact prim_blt2 hu hg e g r k
end
end Q

set_option Elab.async false
set_option linter.all false
set_option maxRecDepth 100000
set_option maxHeartbeats 1000000
namespace Q
open PySem PySem.Spec PyProof.Rows L2

theorem ob {α β : Type} {o : Option α} {f : α → Option β} {r : β} (h : o.bind f = some r) : ∃ x, o = some x ∧ f x = some r := Option.bind_eq_some_iff.mp h
theorem om {α β : Type} {o : Option α} {f : α → β} {r : β} (h : o.map f = some r) : ∃ x, o = some x ∧ f x = r := Option.map_eq_some_iff.mp h
def spOf (K : PySem.W.Frag) (m : FS) : Sp := fun vs H Q _ => ∃ F0 ρ Hs st ds d st', Glob K F0 ρ Hs st H ∧ RepL K ρ Hs ds vs ∧ m ds st = some (d, st') ∧ Cont K F0 ρ Hs st' d Q
/-- what __init__ does: the new instance, with nothing in it, is the first argument -/
def spMk (K : PySem.W.Frag) (C : Addr) (m : FS) : Sp := fun vs H Q _ => ∃ F0 ρ Hs st ds d st' p dx us, vs = .ref p :: us ∧ Glob K F0 ρ Hs st H ∧ H p = some (.ins C dx []) ∧ Hs p = none ∧ F0 p = none ∧ p ∉ ρ ∧ H dx = some (.own p) ∧ Hs dx = none ∧ F0 dx = none ∧ dx ∉ ρ ∧ dx ≠ p ∧ RepL K ρ Hs ds us ∧ m ds st = some (d, st') ∧
  ∀ H' ρ' Hs', Ext ρ Hs ρ' Hs' → Glob K F0 ρ' Hs' st' H' → Rep K ρ' Hs' d (.ref p) → Q .non H'
structure FnAt (X : Cx) (k : Nat) (x : Str) (m : FS) : Prop where
  ex : (∃ f fd ps, X.mg x = some (.ref f) ∧ PySem.W.keepIn X.K (.ref f) = true ∧ Binds X.K fd ps [] ∧ FnG X.prog X.w X.K X.mg X.base CX0 k f fd ps (spOf X.K m)) ∨
    ∃ C f fd ps, X.mg x = some (.ref C) ∧ Mk X.K C f ∧ Binds X.K fd ps [] ∧ FnG X.prog X.w X.K X.mg X.base CX0 k f fd ps (spMk X.K C m)
structure PropAt (X : Cx) (k : Nat) (c x : Str) (m : FS) : Prop where
  ex : ∃ p f fd ps, Cls X.K (He.ga X.K c) ∧ PropOf X.K (He.ga X.K c) x p f ∧ Binds X.K fd ps [] ∧ FnG X.prog X.w X.K X.mg X.base CX0 k f fd ps (spOf X.K m)
structure MthAt (X : Cx) (k : Nat) (c x : Str) (m : FS) : Prop where
  ex : ∃ f fd ps, Cls X.K (He.ga X.K c) ∧ Meth X.K (He.ga X.K c) x f ∧ Binds X.K fd ps [] ∧ FnG X.prog X.w X.K X.mg X.base CX0 k f fd ps (spOf X.K m)
structure Ok (X : Cx) (k : Nat) (T : Tab) : Prop where
  calm : X.calm = true
  nd : X.N.Nodup
  gd : X.A.guards = some []
  room : Room (k + 1) X.A
  blt : ∀ x ∈ bnames ++ bnames2, X.mg x = none
  fn : ∀ x m, T.fn x = some m → FnAt X k x m
  con : ∀ x d, T.con x = some d → isFlat d = true ∧ ∃ u, X.mg x = some u ∧ RelV (vOf d) u
  fld : ∀ c f, f ∈ T.fld c → Cls X.K (He.ga X.K c) ∧ NoAttr X.K (He.ga X.K c) f
  prop : ∀ c x m, T.prop c x = some m → PropAt X k c x m
  mth : ∀ c x m, T.mth c x = some m → MthAt X k c x m
structure EnvOk (K : PySem.W.Frag) (ρ : List Addr) (Hs : Hp) (env : List (Option D)) (σ : L2.St) : Prop where
  len : env.length = σ.length
  at_ : ∀ (i : Nat) (d : D), env[i]? = some (some d) → ∃ v : V, σ[i]? = some (some v) ∧ Rep K ρ Hs d v
theorem EnvOk.mono {K : PySem.W.Frag} {ρ ρ1 : List Addr} {Hs Hs1 : Hp} {env : List (Option D)} {σ : L2.St} (h : EnvOk K ρ Hs env σ) (x : Ext ρ Hs ρ1 Hs1) : EnvOk K ρ1 Hs1 env σ := ⟨h.len, fun i d e => by
  obtain ⟨v, h1, h2⟩ := h.at_ i d e
  exact ⟨v, h1, x.rep h2⟩⟩
def SndE (X : Cx) (T : Tab) (e : Expr) (c : CE) : Prop := ∀ F0 ρ Hs st H σ env, Glob X.K F0 ρ Hs st H → EnvOk X.K ρ Hs env σ → ∀ d st', evalE T c env st = some (d, st') → ∀ Q, Cont X.K F0 ρ Hs st' d Q → Ev X e σ H Q
abbrev ContT (K : PySem.W.Frag) (F0 : Hp) (ρ : List Addr) (Hs : Hp) (st : Store) (b : Bool) (Q : Bool → Hp → Prop) : Prop := ∀ H' ρ' Hs', Ext ρ Hs ρ' Hs' → Glob K F0 ρ' Hs' st H' → Q b H'
def SndT (X : Cx) (T : Tab) (e : Expr) (c : CE) : Prop := ∀ F0 ρ Hs st H σ env, Glob X.K F0 ρ Hs st H → EnvOk X.K ρ Hs env σ → ∀ b st', evalE T c env st = some (.bl b, st') → ∀ Q, ContT X.K F0 ρ Hs st' b Q → EvT X e σ H Q
def SndW (X : Cx) (T : Tab) (e : Expr) (c : CE) : Prop := ∀ F0 ρ Hs st H σ env, Glob X.K F0 ρ Hs st H → EnvOk X.K ρ Hs env σ → ∀ b st', evalE T c env st = some (.bl b, st') → ∀ Q, ContT X.K F0 ρ Hs st' b Q → EvW X e σ H Q
def SndL (X : Cx) (T : Tab) (es : List Expr) (c : CL) : Prop := ∀ F0 ρ Hs st H σ env, Glob X.K F0 ρ Hs st H → EnvOk X.K ρ Hs env σ → ∀ ds st', evalL T c env st = some (ds, st') →
  ∀ Q : List V → Hp → Prop, (∀ vs H' ρ' Hs', Ext ρ Hs ρ' Hs' → Glob X.K F0 ρ' Hs' st' H' → RepL X.K ρ' Hs' ds vs → Q vs H') → EvA X es σ H Q
def notStar : Expr → Bool
  | .Starred _ _ => false
  | _ => true
def notSlice : Expr → Bool
  | .Slice _ _ _ _ => false
  | _ => true
def okBase : Expr → Bool
  | .Call (.Name _ _) [] [] _ => false
  | _ => true
theorem star_cons {e : Expr} {es : List Expr} {env : Env} (h : notStar e = true) : starEach (e :: es) env = (false, eval e env) :: starEach es env := by
  cases e <;> first | rfl | cases h
theorem stars_any : ∀ {es : List Expr} {env : Env} {pos : Pos}, es.all notStar = true → (backTo pos (starEach es env)).any (·.1) = false
  | [], _, _, _ => rfl
  | e :: es, env, pos, h => by
    rw [List.all_cons, Bool.and_eq_true] at h
    rw [star_cons h.1]
    have := stars_any (es := es) (env := env) (pos := pos) h.2
    unfold backTo at this ⊢
    rw [List.map_cons, List.any_cons, this]; rfl
theorem noSl_of {i : Expr} (h : notSlice i = true) : NoSl i := fun o v => by
  cases i <;> first | rfl | cases h
theorem plainIx_of {i : Expr} (h : notSlice i = true) : PlainIx i := fun o v => by
  cases i <;> first | rfl | cases h
theorem base_of {e : Expr} {f : Str} {env : Env} (h : okBase e = true) : attributeBase e f env (eval e env) = eval e env := by
  unfold attributeBase
  split
  · cases h
  · rfl
section
variable {X : Cx} {T : Tab} {k : Nat}
theorem Ok.units (o : Ok X k T) : X.A.units + 65 < cLine := by have := o.room.un; omega
theorem Ok.units2 (o : Ok X k T) : X.A.units + 100 < cLine := by have := o.room.un; omega
theorem Ok.room1 (o : Ok X k T) : Room k X.A := o.room.mono (by omega)
theorem snd_var {i : Nat} {x : Str} {pos : Pos} (hN : X.N[i]? = some x) (hv : Vis X.env.scope x) (hd : (x == ("__debug__" : Str)) = false) (hcd : (x == ("__classdict__" : Str)) = false) : SndE X T (.Name x pos) (.var i) := by
  intro F0 ρ Hs st H σ env g ev d st' he Q k
  refine Ev.of (pe_var hN hv hd hcd) ?_
  unfold evalE at he
  cases q : env[i]? with
  | none => rw [q] at he; cases he
  | some o =>
    rw [q] at he
    cases o with
    | none => cases he
    | some x =>
      cases he
      obtain ⟨v, h1, h2⟩ := ev.at_ i _ q
      exact ⟨v, h1, k.flat g h2⟩
theorem snd_con {x : Str} {pos : Pos} (o : Ok X k T) (hg : Gl X x) (hd : (x == ("__debug__" : Str)) = false) : SndE X T (.Name x pos) (.con x) := by
  intro F0 ρ Hs st H σ env g ev d st' he Q k
  unfold evalE at he
  cases q : T.con x with
  | none => rw [q] at he; cases he
  | some c =>
    rw [q] at he
    cases he
    obtain ⟨hf, u, h1, h2⟩ := o.con x _ q
    refine Ev.of (pe_glob hg h1 h2 hd) ?_
    refine k.flat g ?_
    cases d with
    | non => exact Rep.non.mpr rfl
    | bl b => exact Rep.bl.mpr rfl
    | int b => exact Rep.int.mpr rfl
    | str b => exact Rep.str.mpr rfl
    | _ => cases hf
theorem snd_int {i : Int} {j : Nat} {pos : Pos} : SndE X T (.Constant (.int i) j pos) (.int i) := by
  intro F0 ρ Hs st H σ env g ev d st' he Q k
  unfold evalE at he; cases he
  exact Ev.of pe_int (k.flat g (Rep.int.mpr rfl))
theorem snd_bl {i : Bool} {j : Nat} {pos : Pos} : SndE X T (.Constant (.bool i) j pos) (.bl i) := by
  intro F0 ρ Hs st H σ env g ev d st' he Q k
  unfold evalE at he; cases he
  exact Ev.of pe_bl (k.flat g (Rep.bl.mpr rfl))
theorem snd_str {i : Str} {j : Nat} {pos : Pos} : SndE X T (.Constant (.str i) j pos) (.str i) := by
  intro F0 ρ Hs st H σ env g ev d st' he Q k
  unfold evalE at he; cases he
  exact Ev.of pe_str (k.flat g (Rep.str.mpr rfl))
theorem snd_non {j : Nat} {pos : Pos} : SndE X T (.Constant .none j pos) .non := by
  intro F0 ρ Hs st H σ env g ev d st' he Q k
  unfold evalE at he; cases he
  exact Ev.of pe_non (k.flat g (Rep.non.mpr rfl))
theorem sndL_nil : SndL X T [] .nil := by
  intro F0 ρ Hs st H σ env g ev ds st' he Q k
  unfold evalL at he; cases he
  exact EvA.of pa_nil (k [] H ρ Hs (Ext.refl _ _) g .nil)
theorem sndL_cons {e : Expr} {es : List Expr} {c : CE} {cl : CL} (h1 : SndE X T e c) (h2 : SndL X T es cl) (hs : notStar e = true) : SndL X T (e :: es) (.cons c cl) := by
  intro F0 ρ Hs st H σ env g ev ds st' he Q k
  unfold evalL at he
  cases q : evalE T c env st with
  | none => rw [q] at he; cases he
  | some x =>
    rw [q] at he
    cases q2 : evalL T cl env x.2 with
    | none => simp [q2] at he
    | some y =>
      simp [q2] at he
      obtain ⟨rfl, rfl⟩ := he
      refine EvA.of (pa_cons pe_ev pa_ev (star_cons hs)) ?_
      refine h1 F0 ρ Hs st H σ env g ev x.1 x.2 q _ fun v H1 ρ1 Hs1 e1 g1 r1 => ?_
      refine h2 F0 ρ1 Hs1 x.2 H1 σ env g1 (ev.mono e1) y.1 y.2 q2 _ fun vs H2 ρ2 Hs2 e2 g2 r2 => ?_
      exact k _ _ _ _ (e1.trans e2) g2 (.cons (e2.rep r1) r2)
def CL.len : CL → Nat
  | .nil => 0
  | .cons _ r => r.len + 1
theorem evalL_len : ∀ {cl : CL} {env : List (Option D)} {st : Store} {ds : List D} {st' : Store}, evalL T cl env st = some (ds, st') → ds.length = cl.len
  | .nil, _, _, _, _, h => by unfold evalL at h; cases h; rfl
  | .cons c cl, env, st, ds, st', he => by
    unfold evalL at he
    cases q : evalE T c env st with
    | none => rw [q] at he; cases he
    | some x =>
      rw [q] at he
      cases q2 : evalL T cl env x.2 with
      | none => simp [q2] at he
      | some y =>
        simp [q2] at he
        obtain ⟨rfl, rfl⟩ := he
        rw [List.length_cons, evalL_len q2]; rfl
theorem snd_tup {es : List Expr} {cl : CL} {j : Nat} {pos : Pos} (h : SndL X T es cl) (hl : cl.len ≤ 1000) : SndE X T (.Tuple es j pos) (.tup cl) := by
  intro F0 ρ Hs st H σ env g ev d st' he Q k
  unfold evalE at he
  cases q : evalL T cl env st with
  | none => rw [q] at he; cases he
  | some x =>
    rw [q] at he
    cases he
    refine Ev.of (pe_tup pa_ev) ?_
    refine h F0 ρ Hs st H σ env g ev x.1 x.2 q _ fun vs H1 ρ1 Hs1 e1 g1 r1 => ⟨?_, (k.mono e1).tup g1 r1⟩
    rw [← r1.length, evalL_len q]
    exact Nat.le_trans hl (by decide)
theorem snd_lst {es : List Expr} {cl : CL} {pos : Pos} (h : SndL X T es cl) (hl : cl.len ≤ 1000) : SndE X T (.List es pos) (.lst cl) := by
  intro F0 ρ Hs st H σ env g ev d st' he Q k
  unfold evalE at he
  cases q : evalL T cl env st with
  | none => rw [q] at he; cases he
  | some x =>
    rw [q] at he
    cases he
    refine Ev.of (pe_lst pa_ev) ?_
    refine h F0 ρ Hs st H σ env g ev x.1 x.2 q _ fun vs H1 ρ1 Hs1 e1 g1 r1 => ⟨?_, (k.mono e1).lst g1 r1⟩
    rw [← r1.length, evalL_len q]
    exact Nat.le_trans hl (by decide)
theorem snd_dnew {t : Bool} {pos : Pos} : SndE X T (.Dict [] [] pos) (.dnew t) := by
  intro F0 ρ Hs st H σ env g ev d st' he Q k
  unfold evalE at he
  cases he
  cases t with
  | true =>
    refine Ev.of pe_dnewT fun p hp => ?_
    exact k _ _ ρ _ (Ext.upd (g.fresh hp)) (g.new hp) (Rep.dT.mpr ⟨p, [], rfl, rfl, .inl upd_same, .nil⟩)
  | false =>
    refine Ev.of pe_dnewK fun p hp => ?_
    exact k _ _ ρ _ (Ext.upd (g.fresh hp)) (g.new hp) (Rep.dK.mpr ⟨p, [], rfl, rfl, .inl upd_same, .nil⟩)
theorem snd_bin {a b : Expr} {ca cb : CE} {op : Operator} {pos : Pos} (h1 : SndE X T a ca) (h2 : SndE X T b cb) : SndE X T (.BinOp a op b pos) (.bin op ca cb) := by
  intro F0 ρ Hs st H σ env g ev d st' he Q k
  unfold evalE at he
  obtain ⟨⟨x1, x2⟩, q, he⟩ := ob he
  obtain ⟨⟨y1, y2⟩, q2, he⟩ := ob he
  obtain ⟨d0, h3, he⟩ := om he
  cases he
  refine Ev.of (pe_op opAny pe_ev pe_ev) ?_
  refine h1 F0 ρ Hs st H σ env g ev _ _ q _ fun v H1 ρ1 Hs1 e1 g1 r1 => ?_
  refine h2 F0 ρ1 Hs1 _ H1 σ env g1 (ev.mono e1) _ _ q2 _ fun u H2 ρ2 Hs2 e2 g2 r2 => ?_
  exact prim_bin h3 g2 (e2.rep r1) r2 (k.mono (e1.trans e2))
theorem snd_neg {a : Expr} {ca : CE} {pos : Pos} (h1 : SndE X T a ca) : SndE X T (.UnaryOp .USub a pos) (.neg ca) := by
  intro F0 ρ Hs st H σ env g ev d st' he Q k
  unfold evalE at he
  obtain ⟨⟨x1, x2⟩, q, he⟩ := ob he
  cases x1 with
  | int i =>
    cases he
    refine Ev.of (pe_un un_neg pe_ev) ?_
    refine h1 F0 ρ Hs st H σ env g ev _ _ q _ fun v H1 ρ1 Hs1 e1 g1 r1 => ?_
    cases Rep.int.mp r1
    exact ⟨i, rfl, (k.mono e1).flat g1 (Rep.int.mpr rfl)⟩
  | _ => cases he
/-! ### comparisons -/
def isDict : D → Bool
  | .dK _ _ => true
  | .dT _ _ => true
  | _ => false
theorem notDict {b : D} (h : isDict b = false) : (∀ ks xs, b ≠ .dK ks xs) ∧ (∀ ks xs, b ≠ .dT ks xs) := ⟨fun _ _ z => (by subst z; cases h), fun _ _ z => (by subst z; cases h)⟩
theorem decide_beq (p q : Bool) : decide (p = q) = (p == q) := by cases p <;> cases q <;> rfl
theorem prim_cmp {op : CmpOp} {a b : D} {x y : V} {c : Bool} {F0 Hs H : Hp} {ρ : List Addr} {st : Store} {Q : VK} (o : Ok X k T) (e : cmpD op a b = some c) (hn : (op = .In ∨ op = .NotIn) → isDict b = false) (g : Glob X.K F0 ρ Hs st H) (ra : Rep X.K ρ Hs a x) (rb : Rep X.K ρ Hs b y) (k : Q (.bl c) H) :
    ∃ r, OpR X (compareOp op) r ∧ r x y H Q := by
  have hu := o.units
  have hu64 : X.A.units + 64 < cLine := by omega
  cases op with
  | Eq => exact prim_eq hu64 e g ra rb k
  | NotEq =>
    obtain ⟨b0, h1, h2⟩ := om e
    subst h2
    exact prim_ne hu64 h1 g ra rb k
  | Lt => exact prim_lt hu64 e g ra rb k
  | Gt =>
    unfold cmpD at e
    dsimp only at e
    split at e
    · cases e; cases Rep.int.mp ra; cases Rep.int.mp rb
      exact ⟨_, op_gt, _, _, rfl, rfl, k⟩
    · cases e
  | LtE =>
    unfold cmpD leD at e
    dsimp only at e
    split at e
    · cases e; cases Rep.int.mp ra; cases Rep.int.mp rb
      exact ⟨_, op_le, _, _, rfl, rfl, k⟩
    · cases e
  | GtE =>
    unfold cmpD at e
    dsimp only at e
    split at e
    · cases e; cases Rep.int.mp ra; cases Rep.int.mp rb
      exact ⟨_, op_ge, _, _, rfl, rfl, k⟩
    · cases e
  | In =>
    obtain ⟨n1, n2⟩ := notDict (hn (.inl rfl))
    exact (prim_in hu e n1 n2 g ra rb).1 k
  | NotIn =>
    obtain ⟨b0, h1, h2⟩ := om e
    subst h2
    obtain ⟨n1, n2⟩ := notDict (hn (.inr rfl))
    exact (prim_in hu h1 n1 n2 g ra rb).2 k
  | Is =>
    unfold cmpD at e
    dsimp only at e
    split at e
    · cases e
      cases Rep.non.mp rb
      refine ⟨_, op_isN, rfl, ?_⟩
      cases a with
      | non => cases Rep.non.mp ra; exact k
      | bl _ => cases Rep.bl.mp ra; exact k
      | int _ => cases Rep.int.mp ra; exact k
      | str _ => cases Rep.str.mp ra; exact k
      | tup _ => obtain ⟨p, vs, rfl, _⟩ := Rep.tup.mp ra; exact k
      | lst _ => obtain ⟨p, vs, rfl, _⟩ := Rep.lst.mp ra; exact k
      | dK _ _ => obtain ⟨p, vs, rfl, _⟩ := Rep.dK.mp ra; exact k
      | dT _ _ => obtain ⟨p, vs, rfl, _⟩ := Rep.dT.mp ra; exact k
      | obj _ _ _ => obtain ⟨p, dx, vs, rfl, _⟩ := Rep.obj.mp ra; exact k
      | cell _ => obtain ⟨p, _, rfl⟩ := Rep.cell.mp ra; exact k
      | scr _ => obtain ⟨p, rfl, _⟩ := Rep.scr.mp ra; exact k
      | inst _ _ _ _ => obtain ⟨p, vs, rfl, _⟩ := Rep.inst.mp ra; exact k
    · split at e
      · cases e; cases Rep.bl.mp ra; cases Rep.bl.mp rb
        refine ⟨_, op_is_bl, _, _, rfl, rfl, ?_⟩
        rw [decide_beq]; exact k
      · cases e
    · cases e
  | IsNot =>
    unfold cmpD at e
    dsimp only at e
    split at e
    · cases e
      cases Rep.non.mp rb
      refine ⟨_, op_notN, rfl, ?_⟩
      cases a with
      | non => cases Rep.non.mp ra; exact k
      | bl _ => cases Rep.bl.mp ra; exact k
      | int _ => cases Rep.int.mp ra; exact k
      | str _ => cases Rep.str.mp ra; exact k
      | tup _ => obtain ⟨p, vs, rfl, _⟩ := Rep.tup.mp ra; exact k
      | lst _ => obtain ⟨p, vs, rfl, _⟩ := Rep.lst.mp ra; exact k
      | dK _ _ => obtain ⟨p, vs, rfl, _⟩ := Rep.dK.mp ra; exact k
      | dT _ _ => obtain ⟨p, vs, rfl, _⟩ := Rep.dT.mp ra; exact k
      | obj _ _ _ => obtain ⟨p, dx, vs, rfl, _⟩ := Rep.obj.mp ra; exact k
      | cell _ => obtain ⟨p, _, rfl⟩ := Rep.cell.mp ra; exact k
      | scr _ => obtain ⟨p, rfl, _⟩ := Rep.scr.mp ra; exact k
      | inst _ _ _ _ => obtain ⟨p, vs, rfl, _⟩ := Rep.inst.mp ra; exact k
    · split at e
      · cases e; cases Rep.bl.mp ra; cases Rep.bl.mp rb
        refine ⟨_, op_isnot_bl, _, _, rfl, rfl, ?_⟩
        rw [decide_beq]; exact k
      · cases e
    · cases e
theorem prim_din {b k' : D} {x y : V} {c : Bool} {F0 Hs H : Hp} {ρ : List Addr} {st : Store} (e : inD k' b = some c) (hd : isDict b = true) (g : Glob X.K F0 ρ Hs st H) (ra : Rep X.K ρ Hs k' x) (rb : Rep X.K ρ Hs b y) :
    ∃ a o, y = .ref a ∧ DGet H a x o ∧ o.isSome = c := by
  have e2 : (getD b k').map Option.isSome = some c := by
    cases b with
    | dK _ _ => exact e
    | dT _ _ => exact e
    | _ => cases hd
  obtain ⟨r, h1, h2⟩ := om e2
  obtain ⟨a, q, h3, _, h4, h5⟩ := prim_get h1 g rb ra
  refine ⟨a, q, h3, h4, ?_⟩
  rw [← h2]
  cases r with
  | none => cases q with
    | none => rfl
    | some _ => exact h5.elim
  | some _ => cases q with
    | none => exact h5.elim
    | some _ => rfl
theorem cmp_split {op : CmpOp} {b : D} : ((op = .In ∨ op = .NotIn) ∧ isDict b = true) ∨ ((op = .In ∨ op = .NotIn) → isDict b = false) := by
  cases h : isDict b with
  | false => exact .inr fun _ => rfl
  | true =>
    by_cases h2 : op = .In ∨ op = .NotIn
    · exact .inl ⟨h2, rfl⟩
    · exact .inr fun z => absurd z h2
theorem snd_cmp {a b : Expr} {ca cb : CE} {op : CmpOp} {pos : Pos} (o : Ok X k T) (h1 : SndE X T a ca) (h2 : SndE X T b cb) (hm : behindInMarks op b = false) : SndE X T (.Compare a [op] [b] pos) (.cmp op ca cb) := by
  intro F0 ρ Hs st H σ env g ev d st' he Q k
  unfold evalE at he
  obtain ⟨⟨x1, x2⟩, q, he⟩ := ob he
  obtain ⟨⟨y1, y2⟩, q2, he⟩ := ob he
  obtain ⟨c, h3, he⟩ := om he
  cases he
  rcases cmp_split (op := op) (b := y1) with ⟨hop, hd⟩ | hn
  · have hu : X.A.units + 1 < cLine := by have := o.units; omega
    rcases hop with rfl | rfl
    · refine Ev.of (pe_cmp (pc_din hu pe_ev pe_ev) hm) ?_
      refine h1 F0 ρ Hs st H σ env g ev _ _ q _ fun v H1 ρ1 Hs1 e1 g1 r1 => ?_
      refine h2 F0 ρ1 Hs1 _ H1 σ env g1 (ev.mono e1) _ _ q2 _ fun u H2 ρ2 Hs2 e2 g2 r2 => ?_
      obtain ⟨p, r, z1, z2, z3⟩ := prim_din h3 hd g2 (e2.rep r1) r2
      exact ⟨p, r, z1, z2, by rw [z3]; exact (k.mono (e1.trans e2)).flat g2 (Rep.bl.mpr rfl)⟩
    · obtain ⟨c0, h4, h5⟩ := om h3
      refine Ev.of (pe_cmp (pc_dnotin hu pe_ev pe_ev) hm) ?_
      refine h1 F0 ρ Hs st H σ env g ev _ _ q _ fun v H1 ρ1 Hs1 e1 g1 r1 => ?_
      refine h2 F0 ρ1 Hs1 _ H1 σ env g1 (ev.mono e1) _ _ q2 _ fun u H2 ρ2 Hs2 e2 g2 r2 => ?_
      obtain ⟨p, r, z1, z2, z3⟩ := prim_din h4 hd g2 (e2.rep r1) r2
      exact ⟨p, r, z1, z2, by rw [z3]; exact (k.mono (e1.trans e2)).flat g2 (Rep.bl.mpr (by rw [← h5]))⟩
  · refine Ev.of (pe_cmpR opAny pe_ev pe_ev hm) ?_
    refine h1 F0 ρ Hs st H σ env g ev _ _ q _ fun v H1 ρ1 Hs1 e1 g1 r1 => ?_
    refine h2 F0 ρ1 Hs1 _ H1 σ env g1 (ev.mono e1) _ _ q2 _ fun u H2 ρ2 Hs2 e2 g2 r2 => ?_
    exact prim_cmp o h3 hn g2 (e2.rep r1) r2 ((k.mono (e1.trans e2)).flat g2 (Rep.bl.mpr rfl))
theorem sndT_cmp {a b : Expr} {ca cb : CE} {op : CmpOp} {pos : Pos} (o : Ok X k T) (h1 : SndE X T a ca) (h2 : SndE X T b cb) (hm : behindInMarks op b = false) : SndT X T (.Compare a [op] [b] pos) (.cmp op ca cb) := by
  intro F0 ρ Hs st H σ env g ev d st' he Q k
  unfold evalE at he
  obtain ⟨⟨x1, x2⟩, q, he⟩ := ob he
  obtain ⟨⟨y1, y2⟩, q2, he⟩ := ob he
  obtain ⟨c, h3, he⟩ := om he
  cases he
  rcases cmp_split (op := op) (b := y1) with ⟨hop, hd⟩ | hn
  · have hu : X.A.units + 1 < cLine := by have := o.units; omega
    rcases hop with rfl | rfl
    · refine EvT.of (pt_cmp (pc_din hu pe_ev pe_ev) hm) ?_
      refine h1 F0 ρ Hs st H σ env g ev _ _ q _ fun v H1 ρ1 Hs1 e1 g1 r1 => ?_
      refine h2 F0 ρ1 Hs1 _ H1 σ env g1 (ev.mono e1) _ _ q2 _ fun u H2 ρ2 Hs2 e2 g2 r2 => ?_
      obtain ⟨p, r, z1, z2, z3⟩ := prim_din h3 hd g2 (e2.rep r1) r2
      exact ⟨p, r, z1, z2, _, rfl, by rw [z3]; exact k _ _ _ (e1.trans e2) g2⟩
    · obtain ⟨c0, h4, h5⟩ := om h3
      refine EvT.of (pt_cmp (pc_dnotin hu pe_ev pe_ev) hm) ?_
      refine h1 F0 ρ Hs st H σ env g ev _ _ q _ fun v H1 ρ1 Hs1 e1 g1 r1 => ?_
      refine h2 F0 ρ1 Hs1 _ H1 σ env g1 (ev.mono e1) _ _ q2 _ fun u H2 ρ2 Hs2 e2 g2 r2 => ?_
      obtain ⟨p, r, z1, z2, z3⟩ := prim_din h4 hd g2 (e2.rep r1) r2
      exact ⟨p, r, z1, z2, _, rfl, by rw [z3, h5]; exact k _ _ _ (e1.trans e2) g2⟩
  · refine EvT.of (pt_cmpR opAny pe_ev pe_ev hm) ?_
    refine h1 F0 ρ Hs st H σ env g ev _ _ q _ fun v H1 ρ1 Hs1 e1 g1 r1 => ?_
    refine h2 F0 ρ1 Hs1 _ H1 σ env g1 (ev.mono e1) _ _ q2 _ fun u H2 ρ2 Hs2 e2 g2 r2 => ?_
    exact prim_cmp (Q := fun x H' => ∃ k, x = .bl k ∧ Q k H') o h3 hn g2 (e2.rep r1) r2 ⟨_, rfl, k _ _ _ (e1.trans e2) g2⟩
theorem snd_chain {a b c : Expr} {ca cb cc : CE} {op op' : CmpOp} {pos : Pos} (o : Ok X k T) (h1 : SndE X T a ca) (h2 : SndE X T b cb) (h3 : SndE X T c cc) (hm : lastMarks [op, op'] [b, c] = false) (n1 : op ≠ .In ∧ op ≠ .NotIn) (n2 : op' ≠ .In ∧ op' ≠ .NotIn) :
    SndE X T (.Compare a [op, op'] [b, c] pos) (.chain op op' ca cb cc) := by
  intro F0 ρ Hs st H σ env g ev d st' he Q k
  unfold evalE at he
  obtain ⟨⟨x1, x2⟩, q, he⟩ := ob he
  obtain ⟨⟨y1, y2⟩, q2, he⟩ := ob he
  obtain ⟨b1, hb1, he⟩ := ob he
  refine Ev.of (pe_chain opAny opAny pe_ev pe_ev pe_ev hm) ?_
  refine h1 F0 ρ Hs st H σ env g ev _ _ q _ fun v H1 ρ1 Hs1 e1 g1 r1 => ?_
  refine h2 F0 ρ1 Hs1 _ H1 σ env g1 (ev.mono e1) _ _ q2 _ fun u H2 ρ2 Hs2 e2 g2 r2 => ?_
  refine prim_cmp o hb1 (fun z => absurd z (by rintro (z | z); exact n1.1 z; exact n1.2 z)) g2 (e2.rep r1) r2 ⟨_, rfl, ?_⟩
  cases b1 with
  | true =>
    obtain ⟨⟨z1, z2⟩, q3, he⟩ := ob he
    obtain ⟨b2, hb2, he⟩ := om he
    cases he
    refine iteT ?_
    refine h3 F0 ρ2 Hs2 _ H2 σ env g2 (ev.mono (e1.trans e2)) _ _ q3 _ fun w' H3 ρ3 Hs3 e3 g3 r3 => ?_
    exact prim_cmp o hb2 (fun z => absurd z (by rintro (z | z); exact n2.1 z; exact n2.2 z)) g3 (e3.rep r2) r3 ((k.mono ((e1.trans e2).trans e3)).flat g3 (Rep.bl.mpr rfl))
  | false =>
    cases he
    exact iteF ((k.mono (e1.trans e2)).flat g2 (Rep.bl.mpr rfl))
theorem sndT_chain {a b c : Expr} {ca cb cc : CE} {op op' : CmpOp} {pos : Pos} (o : Ok X k T) (h1 : SndE X T a ca) (h2 : SndE X T b cb) (h3 : SndE X T c cc) (hm : lastMarks [op, op'] [b, c] = false) (n1 : op ≠ .In ∧ op ≠ .NotIn) (n2 : op' ≠ .In ∧ op' ≠ .NotIn) :
    SndT X T (.Compare a [op, op'] [b, c] pos) (.chain op op' ca cb cc) := by
  intro F0 ρ Hs st H σ env g ev d st' he Q k
  unfold evalE at he
  obtain ⟨⟨x1, x2⟩, q, he⟩ := ob he
  obtain ⟨⟨y1, y2⟩, q2, he⟩ := ob he
  obtain ⟨b1, hb1, he⟩ := ob he
  refine EvT.of (pt_chain opAny opAny pe_ev pe_ev pe_ev hm) ?_
  refine h1 F0 ρ Hs st H σ env g ev _ _ q _ fun v H1 ρ1 Hs1 e1 g1 r1 => ?_
  refine h2 F0 ρ1 Hs1 _ H1 σ env g1 (ev.mono e1) _ _ q2 _ fun u H2 ρ2 Hs2 e2 g2 r2 => ?_
  refine prim_cmp o hb1 (fun z => absurd z (by rintro (z | z); exact n1.1 z; exact n1.2 z)) g2 (e2.rep r1) r2 ⟨_, rfl, ?_⟩
  cases b1 with
  | true =>
    obtain ⟨⟨z1, z2⟩, q3, he⟩ := ob he
    obtain ⟨b2, hb2, he⟩ := om he
    cases he
    refine iteT ?_
    refine h3 F0 ρ2 Hs2 _ H2 σ env g2 (ev.mono (e1.trans e2)) _ _ q3 _ fun w' H3 ρ3 Hs3 e3 g3 r3 => ?_
    exact prim_cmp (Q := fun x H' => ∃ k, x = .bl k ∧ Q k H') o hb2 (fun z => absurd z (by rintro (z | z); exact n2.1 z; exact n2.2 z)) g3 (e3.rep r2) r3 ⟨_, rfl, k _ _ _ ((e1.trans e2).trans e3) g3⟩
  | false =>
    cases he
    exact iteF ⟨_, rfl, k _ _ _ (e1.trans e2) g2⟩
end
end Q

set_option Elab.async false
set_option linter.all false
set_option maxRecDepth 100000
set_option maxHeartbeats 1000000
namespace Q
open PySem PySem.Spec PyProof.Rows L2
section
variable {X : Cx} {T : Tab} {k : Nat}
theorem sndT_val {e : Expr} {c : CE} (h : SndE X T e c) (he : ∀ whole, isTrue e X.env whole = (do let v ← whole; standAt e.pos; holding [v] (truthy v))) : SndT X T e c := by
  intro F0 ρ Hs st H σ env g ev b st' hv Q k
  refine EvT.of (pt_val pe_ev he) ?_
  exact h F0 ρ Hs st H σ env g ev _ _ hv _ fun v H1 ρ1 Hs1 e1 g1 r1 => ⟨b, Rep.bl.mp r1, k _ _ _ e1 g1⟩
theorem snd_one {a : Expr} {ca : CE} {op : BoolOp} {pos : Pos} (h : SndE X T a ca) : SndE X T (.BoolOp op [a] pos) ca := by
  intro F0 ρ Hs st H σ env g ev d st' hv Q k
  exact Ev.of (pe_one pe_ev) (h F0 ρ Hs st H σ env g ev d st' hv Q k)
theorem snd_and {a b : Expr} {rest : List Expr} {ca cb : CE} {pos : Pos} (h1 : SndE X T a ca) (h2 : SndE X T (.BoolOp .And (b :: rest) pos) cb) : SndE X T (.BoolOp .And (a :: b :: rest) pos) (.and ca cb) := by
  intro F0 ρ Hs st H σ env g ev d st' he Q k
  unfold evalE at he
  obtain ⟨⟨x1, x2⟩, q, he⟩ := ob he
  refine Ev.of (pe_and pe_ev pe_ev) ?_
  refine h1 F0 ρ Hs st H σ env g ev _ _ q _ fun v H1 ρ1 Hs1 e1 g1 r1 => ?_
  cases x1 with
  | bl c =>
    refine ⟨c, Rep.bl.mp r1, ?_⟩
    cases c with
    | true => exact iteT (h2 F0 ρ1 Hs1 _ H1 σ env g1 (ev.mono e1) _ _ he Q (k.mono e1))
    | false => cases he; exact iteF ((k.mono e1).flat g1 (Rep.bl.mpr rfl))
  | _ => cases he
theorem snd_or {a b : Expr} {rest : List Expr} {ca cb : CE} {pos : Pos} (h1 : SndE X T a ca) (h2 : SndE X T (.BoolOp .Or (b :: rest) pos) cb) : SndE X T (.BoolOp .Or (a :: b :: rest) pos) (.or ca cb) := by
  intro F0 ρ Hs st H σ env g ev d st' he Q k
  unfold evalE at he
  obtain ⟨⟨x1, x2⟩, q, he⟩ := ob he
  refine Ev.of (pe_or pe_ev pe_ev) ?_
  refine h1 F0 ρ Hs st H σ env g ev _ _ q _ fun v H1 ρ1 Hs1 e1 g1 r1 => ?_
  cases x1 with
  | bl c =>
    refine ⟨c, Rep.bl.mp r1, ?_⟩
    cases c with
    | false => exact iteF (h2 F0 ρ1 Hs1 _ H1 σ env g1 (ev.mono e1) _ _ he Q (k.mono e1))
    | true => cases he; exact iteT ((k.mono e1).flat g1 (Rep.bl.mpr rfl))
  | _ => cases he
theorem snd_not {a : Expr} {ca : CE} {pos : Pos} (h1 : SndE X T a ca) : SndE X T (.UnaryOp .Not a pos) (.not ca) := by
  intro F0 ρ Hs st H σ env g ev d st' he Q k
  unfold evalE at he
  obtain ⟨⟨x1, x2⟩, q, he⟩ := ob he
  cases x1 with
  | bl c =>
    cases he
    refine Ev.of (pe_not pe_ev) ?_
    exact h1 F0 ρ Hs st H σ env g ev _ _ q _ fun v H1 ρ1 Hs1 e1 g1 r1 => ⟨c, Rep.bl.mp r1, (k.mono e1).flat g1 (Rep.bl.mpr rfl)⟩
  | _ => cases he
theorem sndT_not {a : Expr} {ca : CE} {pos : Pos} (h1 : SndT X T a ca) : SndT X T (.UnaryOp .Not a pos) (.not ca) := by
  intro F0 ρ Hs st H σ env g ev b st' he Q k
  unfold evalE at he
  obtain ⟨⟨x1, x2⟩, q, he⟩ := ob he
  cases x1 with
  | bl c =>
    cases he
    refine EvT.of (pt_not pt_ev) ?_
    exact h1 F0 ρ Hs st H σ env g ev _ _ q _ fun H1 ρ1 Hs1 e1 g1 => k _ _ _ e1 g1
  | _ => cases he
theorem SndW.t {e : Expr} {c : CE} (h : SndW X T e c) : SndT X T e c := by
  intro F0 ρ Hs st H σ env g ev b st' he Q k
  exact EvT.of (PW.pt pw_ev) (h F0 ρ Hs st H σ env g ev b st' he Q k)
theorem sndW_and1 {a : Expr} {ca : CE} {pos : Pos} (h1 : SndT X T a ca) : SndW X T (.BoolOp .And [a] pos) ca := by
  intro F0 ρ Hs st H σ env g ev b st' he Q k
  exact EvW.of (pw_and1 pt_ev) (h1 F0 ρ Hs st H σ env g ev b st' he Q k)
theorem sndW_or1 {a : Expr} {ca : CE} {pos : Pos} (h1 : SndT X T a ca) : SndW X T (.BoolOp .Or [a] pos) ca := by
  intro F0 ρ Hs st H σ env g ev b st' he Q k
  exact EvW.of (pw_or1 pt_ev) (h1 F0 ρ Hs st H σ env g ev b st' he Q k)
theorem sndW_and {a b : Expr} {rest : List Expr} {ca cb : CE} {pos : Pos} (h1 : SndT X T a ca) (h2 : SndW X T (.BoolOp .And (b :: rest) pos) cb) : SndW X T (.BoolOp .And (a :: b :: rest) pos) (.and ca cb) := by
  intro F0 ρ Hs st H σ env g ev d st' he Q k
  unfold evalE at he
  obtain ⟨⟨x1, x2⟩, q, he⟩ := ob he
  refine EvW.of (pw_and pt_ev pw_ev) ?_
  cases x1 with
  | bl c =>
    refine h1 F0 ρ Hs st H σ env g ev _ _ q _ fun H1 ρ1 Hs1 e1 g1 => ?_
    cases c with
    | true => exact iteT (h2 F0 ρ1 Hs1 _ H1 σ env g1 (ev.mono e1) _ _ he Q fun H2 ρ2 Hs2 e2 => k _ _ _ (e1.trans e2))
    | false => cases he; exact iteF (k _ _ _ e1 g1)
  | _ => cases he
theorem sndW_or {a b : Expr} {rest : List Expr} {ca cb : CE} {pos : Pos} (h1 : SndT X T a ca) (h2 : SndW X T (.BoolOp .Or (b :: rest) pos) cb) : SndW X T (.BoolOp .Or (a :: b :: rest) pos) (.or ca cb) := by
  intro F0 ρ Hs st H σ env g ev d st' he Q k
  unfold evalE at he
  obtain ⟨⟨x1, x2⟩, q, he⟩ := ob he
  refine EvW.of (pw_or pt_ev pw_ev) ?_
  cases x1 with
  | bl c =>
    refine h1 F0 ρ Hs st H σ env g ev _ _ q _ fun H1 ρ1 Hs1 e1 g1 => ?_
    cases c with
    | false => exact iteF (h2 F0 ρ1 Hs1 _ H1 σ env g1 (ev.mono e1) _ _ he Q fun H2 ρ2 Hs2 e2 => k _ _ _ (e1.trans e2))
    | true => cases he; exact iteT (k _ _ _ e1 g1)
  | _ => cases he
theorem snd_ife {t a b : Expr} {ct ca cb : CE} {pos : Pos} (h0 : SndT X T t ct) (h1 : SndE X T a ca) (h2 : SndE X T b cb) : SndE X T (.IfExp t a b pos) (.ife ct ca cb) := by
  intro F0 ρ Hs st H σ env g ev d st' he Q k
  unfold evalE at he
  obtain ⟨⟨x1, x2⟩, q, he⟩ := ob he
  refine Ev.of (pe_ifExp pt_ev pe_ev pe_ev) ?_
  cases x1 with
  | bl c =>
    refine h0 F0 ρ Hs st H σ env g ev _ _ q _ fun H1 ρ1 Hs1 e1 g1 => ?_
    cases c with
    | true => exact iteT (h1 F0 ρ1 Hs1 _ H1 σ env g1 (ev.mono e1) _ _ he Q (k.mono e1))
    | false => exact iteF (h2 F0 ρ1 Hs1 _ H1 σ env g1 (ev.mono e1) _ _ he Q (k.mono e1))
  | _ => cases he
/-! ### subscripts, slices -/
theorem snd_sub {a i : Expr} {ca ci : CE} {pos : Pos} (o : Ok X k T) (h1 : SndE X T a ca) (h2 : SndE X T i ci) (hs : notSlice i = true) : SndE X T (.Subscript a i pos) (.sub ca ci) := by
  intro F0 ρ Hs st H σ env g ev d st' he Q k
  unfold evalE at he
  obtain ⟨⟨x1, x2⟩, q, he⟩ := ob he
  obtain ⟨⟨y1, y2⟩, q2, he⟩ := ob he
  obtain ⟨d0, h3, he⟩ := om he
  cases he
  cases hd : isDict x1 with
  | true =>
    have hu : X.A.units + 1 < cLine := by have := o.units; omega
    have e2 : (getD x1 y1).join = some d := by
      cases x1 with
      | dK _ _ => cases y1 <;> exact h3
      | dT _ _ => cases y1 <;> exact h3
      | _ => cases hd
    refine Ev.of (pe_dget hu pe_ev pe_ev (noSl_of hs)) ?_
    refine h1 F0 ρ Hs st H σ env g ev _ _ q _ fun v H1 ρ1 Hs1 e1 g1 r1 => ?_
    refine h2 F0 ρ1 Hs1 _ H1 σ env g1 (ev.mono e1) _ _ q2 _ fun u H2 ρ2 Hs2 ex2 g2 r2 => ?_
    cases hg : getD x1 y1 with
    | none => rw [hg] at e2; cases e2
    | some r =>
      rw [hg] at e2
      have e3 : r = some d := e2
      subst e3
      obtain ⟨p, qq, z1, _, z2, z3⟩ := prim_get hg g2 (ex2.rep r1) r2
      cases qq with
      | none => exact z3.elim
      | some w => exact ⟨p, w, z1, z2, (k.mono (e1.trans ex2)).flat g2 z3⟩
  | false =>
    obtain ⟨n1, n2⟩ := notDict hd
    refine Ev.of (pe_ix ixAny pe_ev pe_ev (plainIx_of hs)) ?_
    refine h1 F0 ρ Hs st H σ env g ev _ _ q _ fun v H1 ρ1 Hs1 e1 g1 r1 => ?_
    refine h2 F0 ρ1 Hs1 _ H1 σ env g1 (ev.mono e1) _ _ q2 _ fun u H2 ρ2 Hs2 e2 g2 r2 => ?_
    exact prim_sub h3 n1 n2 g2 (e2.rep r1) r2 (k.mono (e1.trans e2))
def EvO (X : Cx) (e : Option Expr) : TO := fun σ H Q => ∀ (pins : List (Addr × Obj)) (s : Shared), Inv X pins σ H s → wpAny (model X.prog X.w) X.A (evalPart e X.env) (fun u s' => ∃ o H', Inv X pins σ H' s' ∧ IsPart u o ∧ Q o H') X.xe s
theorem po_ev {e : Option Expr} : PO X e (EvO X e) := ⟨fun pins s _ _ _ I h => h pins s I⟩
theorem EvO.of {e : Option Expr} {t : TO} (h : PO X e t) {σ : L2.St} {H : Hp} {Q : Option Int → Hp → Prop} (q : t σ H Q) : EvO X e σ H Q := fun pins s I => h.run pins s σ H Q I q
def SndO (X : Cx) (T : Tab) (e : Option Expr) (c : CO) : Prop := ∀ F0 ρ Hs st H σ env, Glob X.K F0 ρ Hs st H → EnvOk X.K ρ Hs env σ → ∀ o st', evalO T c env st = some (o, st') →
  ∀ Q : Option Int → Hp → Prop, (∀ H' ρ' Hs', Ext ρ Hs ρ' Hs' → Glob X.K F0 ρ' Hs' st' H' → Q o H') → EvO X e σ H Q
theorem sndO_no : SndO X T none .no := by
  intro F0 ρ Hs st H σ env g ev d st' he Q k
  unfold evalO at he
  cases he
  exact EvO.of po_none (k _ _ _ (Ext.refl _ _) g)
theorem sndO_yes {e : Expr} {c : CE} (h : SndE X T e c) : SndO X T (some e) (.yes c) := by
  intro F0 ρ Hs st H σ env g ev d st' he Q k
  unfold evalO at he
  obtain ⟨⟨x1, x2⟩, q, he⟩ := ob he
  cases x1 with
  | int i =>
    cases he
    refine EvO.of (po_some pe_ev) ?_
    exact h F0 ρ Hs st H σ env g ev _ _ q _ fun v H1 ρ1 Hs1 e1 g1 r1 => ⟨i, Rep.int.mp r1, k _ _ _ e1 g1⟩
  | _ => cases he
theorem snd_slice {a : Expr} {lo hi : Option Expr} {ca : CE} {cl ch : CO} {p2 pos : Pos} (h1 : SndE X T a ca) (h2 : SndO X T lo cl) (h3 : SndO X T hi ch) : SndE X T (.Subscript a (.Slice lo hi none p2) pos) (.slice ca cl ch) := by
  intro F0 ρ Hs st H σ env g ev d st' he Q k
  unfold evalE at he
  obtain ⟨⟨x1, x2⟩, q, he⟩ := ob he
  obtain ⟨⟨y1, y2⟩, q2, he⟩ := ob he
  obtain ⟨⟨z1, z2⟩, q3, he⟩ := ob he
  obtain ⟨d0, h4, he⟩ := om he
  cases he
  refine Ev.of (pe_slice slAny pe_ev po_ev po_ev) ?_
  refine h1 F0 ρ Hs st H σ env g ev _ _ q _ fun v H1 ρ1 Hs1 e1 g1 r1 => ?_
  refine h2 F0 ρ1 Hs1 _ H1 σ env g1 (ev.mono e1) _ _ q2 _ fun H2 ρ2 Hs2 e2 g2 => ?_
  refine h3 F0 ρ2 Hs2 _ H2 σ env g2 (ev.mono (e1.trans e2)) _ _ q3 _ fun H3 ρ3 Hs3 e3 g3 => ?_
  exact prim_slice h4 g3 ((e2.trans e3).rep r1) (k.mono ((e1.trans e2).trans e3))
theorem snd_rev {a : Expr} {ca : CE} {j : Nat} {p1 p2 p3 pos : Pos} (h1 : SndE X T a ca) : SndE X T (.Subscript a (.Slice none none (some (.UnaryOp .USub (.Constant (.int 1) j p1) p2)) p3) pos) (.rev ca) := by
  intro F0 ρ Hs st H σ env g ev d st' he Q k
  unfold evalE at he
  obtain ⟨⟨x1, x2⟩, q, he⟩ := ob he
  obtain ⟨d0, h4, he⟩ := om he
  cases he
  cases x1 with
  | lst xs =>
    cases h4
    refine Ev.of (pe_revL pe_ev) ?_
    refine h1 F0 ρ Hs st H σ env g ev _ _ q _ fun v H1 ρ1 Hs1 e1 g1 r1 => ?_
    obtain ⟨p, vs, rfl, h5, h6⟩ := Rep.lst.mp r1
    exact ⟨p, vs, rfl, SqL.of (g1.lst h5), (k.mono e1).lst g1 h6.reverse⟩
  | _ => cases h4
/-! ### calls -/
theorem snd_call {f : Str} {e : Expr} {es : List Expr} {cl : CL} {p pos : Pos} (o : Ok X k T) (h : SndL X T (e :: es) cl) (hg : Gl X f) (hdb : (f == ("__debug__" : Str)) = false) (hs : notStar e = true) (hs2 : es.all notStar = true) :
    SndE X T (.Call (.Name f p) (e :: es) [] pos) (.call f cl) := by
  intro F0 ρ Hs st H σ env g ev d st' he Q k
  unfold evalE at he
  obtain ⟨m, hm, he⟩ := ob he
  obtain ⟨⟨x1, x2⟩, q, he⟩ := ob he
  rcases (o.fn f m hm).ex with ⟨fa, fd, ps, h1, h2, h3, h4⟩ | ⟨C, fa, fd, ps, h1, h2, h3, h4⟩
  · refine Ev.of (pe_callG h4 o.gd o.room1 hg h1 h2 h3 (E := E0) pass0 pa_ev hdb (star_cons hs) (stars_any hs2)) ?_
    refine h F0 ρ Hs st H σ env g ev _ _ q _ fun vs H1 ρ1 Hs1 e1 g1 r1 => ?_
    exact ⟨F0, ρ1, Hs1, x2, x1, d, st', g1, r1, he, k.mono e1⟩
  · refine Ev.of (pe_makeG h2 h4 o.gd o.room hg h1 h3 (E := E0) pass0 pa_ev hdb (star_cons hs) (stars_any hs2)) ?_
    refine h F0 ρ Hs st H σ env g ev _ _ q _ fun vs H1 ρ1 Hs1 e1 g1 r1 => ?_
    intro p dx hp hdx ne
    rw [List.append_nil]
    have hp2 : upd H1 dx (.own p) p = none := by rw [upd_ne (Ne.symm ne)]; exact hp
    refine ⟨F0, ρ1, Hs1, x2, x1, d, st', p, dx, vs, rfl, (g1.own hdx).own hp2, upd_same, g1.fresh hp, g1.nofoe hp, g1.notin hp, by rw [upd_ne ne, upd_same], g1.fresh hdx, g1.nofoe hdx, g1.notin hdx, ne, r1, he, fun H' ρ' Hs' e2 g2 r2 => ⟨rfl, ?_⟩⟩
    exact k _ _ _ _ (e1.trans e2) g2 r2
theorem boot_of {f : Str} (h : f ∈ bnames ++ bnames2) : ∃ u, bootBuiltins f = some u ∧ BV u := by
  have h2 : (bnames ++ bnames2).all (fun f => match bootBuiltins f with
    | some (.builtin _) => true
    | some (.type _) => true
    | _ => false) = true := by decide +kernel
  have h3 := List.all_eq_true.mp h2 f h
  cases e : bootBuiltins f with
  | none => rw [e] at h3; cases h3
  | some u =>
    rw [e] at h3
    cases u with
    | builtin id => exact ⟨_, rfl, .fn id⟩
    | type T => exact ⟨_, rfl, .ty T⟩
    | _ => cases h3
theorem snd_blt {f : Str} {e : Expr} {es : List Expr} {cl : CL} {p pos : Pos} (o : Ok X k T) (h : SndL X T (e :: es) cl) (hg : Gl X f) (hf : f ∈ bnames ++ bnames2) (hn : f ≠ "__name__") (hdb : (f == ("__debug__" : Str)) = false) (hs : notStar e = true) (hs2 : es.all notStar = true) :
    SndE X T (.Call (.Name f p) (e :: es) [] pos) (.blt f cl) := by
  intro F0 ρ Hs st H σ env g ev d st' he Q k
  unfold evalE at he
  obtain ⟨⟨x1, x2⟩, q, he⟩ := ob he
  obtain ⟨d0, h4, he⟩ := om he
  cases he
  have hm := o.blt f hf
  -- which value the name has does not hang on the state
  have hu := boot_of hf
  obtain ⟨u, hu1, hu2⟩ := hu
  have fin : EvA X (e :: es) σ H fun vs H1 => ∃ r, CallR X u r ∧ r vs H1 Q := by
    refine h F0 ρ Hs st H σ env g ev _ _ q _ fun vs H1 ρ1 Hs1 e1 g1 r1 => ?_
    obtain ⟨u', w1, _, w3⟩ := prim_blt o.calm o.units2 o.gd h4 g1 r1 (k.mono e1)
    rw [hu1] at w1
    cases w1
    exact w3
  cases hu2 with
  | fn id => exact Ev.of (pe_callB callAny hg hm hu1 pa_ev hn hdb (star_cons hs) (stars_any hs2)) fin
  | ty id => exact Ev.of (pe_callTy callAny hg hm hu1 pa_ev hn hdb (star_cons hs) (stars_any hs2)) fin
/-! ### sorted(set(e)) -/
def tvS (_ : Hp) (k : Key) (v : V) : Prop := v = kV k
def tvT (H : Hp) (k : List Key) (v : V) : Prop := ∃ b, v = .ref b ∧ H b = some (.tup (k.map kV))
theorem kd_tokS {H : Hp} {h : Heap} {k : Key} {v : V} {u : Value} (ok : HOk X.prog X.w H h) (hv : tvS H k v) (r : RelV v u) : (kdS X.prog X.w).ok h k u := by
  unfold tvS at hv
  subst hv
  refine ⟨kV_is r, ?_⟩
  cases k with
  | inl i => obtain ⟨t, rfl⟩ := r; rfl
  | inr i => obtain ⟨t, rfl⟩ := r; rfl
theorem kd_tokT {H : Hp} {h : Heap} {k : List Key} {v : V} {u : Value} (ok : HOk X.prog X.w H h) (hv : tvT H k v) (r : RelV v u) : (kdT X.prog X.w).ok h k u := by
  obtain ⟨b, rfl, e⟩ := hv
  obtain rfl : u = Value.ref b := r
  exact ⟨b, rfl, key_of ok e⟩
theorem rd_key {h : Heap} {k : Key} {u : Value} (e : keyIs k u = true) : Reads h u (encK k) [] := by
  rcases keyIs_shape e with ⟨i, t, rfl, rfl⟩ | ⟨i, t, rfl, rfl⟩
  · exact .int i t
  · exact .str i t
theorem rdS {h : Heap} {k : Key} {u : Value} (e : (kdS X.prog X.w).ok h k u) : Reads h u (encK k) [] := rd_key e.1
theorem rdT {h : Heap} {k : List Key} {u : Value} (e : (kdT X.prog X.w).ok h k u) : Reads h u (encT k) [] := by
  obtain ⟨b, rfl, o, items, n, h1, h2, h3, h4⟩ := e
  refine .tuple h1 h2 h3 ?_
  generalize items.toList = l at h4
  induction h4 with
  | nil => exact .nil
  | cons q _ ih => exact .cons (rd_key q) ih
theorem keysOf_eq : ∀ {ds : List D} {k : List Key}, keysOf ds = some k → ds = k.map keyD
  | [], k, e => by cases e; rfl
  | d :: ds, k, e => by
    unfold keysOf at e
    split at e
    · rename_i x r h1 h2
      cases e
      rw [List.map_cons, ← keysOf_eq h2]
      cases d with
      | int i => cases h1; rfl
      | str i => cases h1; rfl
      | _ => cases h1
    · cases e
theorem rep_key {K : PySem.W.Frag} {ρ : List Addr} {H : Hp} (k : Key) : Rep K ρ H (keyD k) (kV k) := by
  cases k with
  | inl i => exact Rep.int.mpr rfl
  | inr i => exact Rep.str.mpr rfl
theorem sortU_mem {κ : Type} [DecidableEq κ] {enc : κ → PyData} (inj : ∀ {a b : κ}, PySem.W.keyToks (enc a) = PySem.W.keyToks (enc b) → a = b) {l m : List κ} (h : ∀ k, k ∈ l ↔ k ∈ m) : sortU enc l = sortU enc m :=
  sortU_of inj (nodup_uniq l) fun k => mem_uniq.trans (h k)
theorem tkeys_rep {K : PySem.W.Frag} {ρ : List Addr} {H : Hp} : ∀ {xs : List D} {vs : List V} {kss : List (List Key)}, RepL K ρ H xs vs → tkeysOf xs = some kss → ∃ bs : List (V × List Key), bs.map (·.1) = vs ∧ bs.map (·.2) = kss ∧ ∀ b ∈ bs, tvT H b.2 b.1 ∧ Rep K ρ H (tupD b.2) b.1
  | [], vs, kss, r, e => by rw [RepL.nil_iff] at r; subst r; cases e; exact ⟨[], rfl, rfl, fun z hz => absurd hz List.not_mem_nil⟩
  | d :: ds, vs, kss, r, e => by
    obtain ⟨v, q, rfl, hx, k⟩ := RepL.cons_iff.mp r
    cases d with
    | tup ys =>
      unfold tkeysOf at e
      split at e
      · rename_i x r h1 h2
        cases e
        obtain ⟨bs, e1, e2, e3⟩ := tkeys_rep k h2
        obtain ⟨a, us, rfl, h4, h5⟩ := Rep.tup.mp hx
        refine ⟨(.ref a, x) :: bs, by rw [List.map_cons, e1], by rw [List.map_cons, e2], fun b hb => ?_⟩
        rcases List.mem_cons.mp hb with rfl | hb
        · refine ⟨⟨a, rfl, by rw [← keysOf_rep h1 h5]; exact h4⟩, ?_⟩
          unfold tupD
          rw [← keysOf_eq h1]; exact hx
        · exact e3 b hb
      · cases e
    | _ => cases e
theorem depth_encK (k : Key) : (encK k).depth = 0 := by cases k <;> rfl
theorem depth_encT (k : List Key) : (encT k).depth ≤ 1 := by
  unfold encT
  have : ∀ k : List Key, PyData.depthAll (k.map encK) = 0 := by
    intro k
    induction k with
    | nil => rfl
    | cons x k ih => rw [List.map_cons, PyData.depthAll, ih, depth_encK]; rfl
  rw [PyData.depth, this]
  exact Nat.le_refl _
theorem snd_sortset {e : Expr} {ce : CE} {p p2 pos pos2 : Pos} (o : Ok X k T) (h : SndE X T e ce) (hg : Gl X "sorted") (hg2 : Gl X "set") (hs : notStar e = true) : SndE X T (.Call (.Name "sorted" p) [.Call (.Name "set" p2) [e] [] pos2] [] pos) (.sortset ce) := by
  intro F0 ρ Hs st H σ env g ev d st' he Q k
  unfold evalE at he
  obtain ⟨⟨x1, x2⟩, q, he⟩ := ob he
  obtain ⟨d0, h4, he⟩ := om he
  cases he
  have hu := o.units2
  cases x1 with
  | lst xs =>
    unfold sortSetD at h4
    dsimp only at h4
    split at h4
    · rename_i few
      split at h4
      · rename_i ks hk
        split at h4
        · rename_i al
          cases h4
          refine Ev.of (pe_callB (cr_sortG (kdS X.prog X.w) encK encK_inj tvS kd_tokS rdS o.calm) hg (o.blt _ (by decide +kernel)) (by decide +kernel)
            (pa_cons (pe_callTy (cr_setG (kdS X.prog X.w) tvS kd_tokS o.calm (by omega)) hg2 (o.blt _ (by decide +kernel)) (by decide +kernel) (pa_cons pe_ev pa_nil (star_cons hs)) (by decide +kernel) (by decide +kernel) (star_cons hs) rfl) pa_nil (star_cons rfl)) (by decide +kernel) (by decide +kernel) (star_cons rfl) rfl) ?_
          refine h F0 ρ Hs st H σ env g ev _ _ q _ fun v H1 ρ1 Hs1 e1 g1 r1 => ?_
          obtain ⟨a, vs, rfl, h5, h6⟩ := Rep.lst.mp r1
          have hv := keysOf_rep hk h6
          subst hv
          refine ⟨a, ks.map fun k => (kV k, k), rfl, ?_, fun b hb => ?_, ?_, fun p' L hp hL hm nd => ?_⟩
          · rw [List.map_map]; exact SqL.of (g1.lst h5)
          · obtain ⟨z, _, rfl⟩ := List.mem_map.mp hb; rfl
          · have := h6.length
            rw [List.length_map] at this ⊢
            omega
          · have hm2 : ∀ k, k ∈ L.map (·.2) ↔ k ∈ ks := fun k => by
              rw [hm k, List.map_map]
              simp
            have al2 : PySem.W.AllAlike (L.map fun p => encK p.2) := by
              intro a ha b hb
              obtain ⟨z, hz, rfl⟩ := List.mem_map.mp ha
              obtain ⟨y, hy, rfl⟩ := List.mem_map.mp hb
              exact List.all_eq_true.mp (List.all_eq_true.mp al _ (List.mem_map.mpr ⟨z.2, (hm2 _).mp (List.mem_map.mpr ⟨z, hz, rfl⟩), rfl⟩)) _ (List.mem_map.mpr ⟨y.2, (hm2 _).mp (List.mem_map.mpr ⟨y, hy, rfl⟩), rfl⟩)
            refine ⟨p', L, rfl, upd_same, fun z hz => ?_, al2, .inr fun z hz => ?_, fun z hz => ?_, fun p2 ys hp2 hy hys => ?_⟩
            · obtain ⟨x, h7, h8⟩ := hL z hz
              obtain ⟨y, _, h9⟩ := List.mem_map.mp h8
              cases h9
              exact ⟨_, h7, rfl⟩
            · obtain ⟨y, _, rfl⟩ := List.mem_map.mp hz
              obtain ⟨y1, y2⟩ := y
              cases y2 <;> exact ⟨nofun, nofun⟩
            · rw [depth_encK]; omega
            · have es : sortU encK ks = ys.map (·.2) := by rw [hys]; exact (sortU_mem encK_inj hm2).symm
              rw [es, List.map_map] at k
              refine (k.mono e1).lst (g1.own hp) (RepL.of_map fun y hy' => ?_) p2 hp2
              obtain ⟨u, h7, h8⟩ := hy y hy'
              obtain ⟨x, h9, h10⟩ := hL _ h8
              obtain ⟨z, _, h11⟩ := List.mem_map.mp h10
              cases h11
              rw [RelV.inj h7 h9]
              exact rep_key _
        · cases h4
      · split at h4
        · rename_i kss hk
          split at h4
          · rename_i al
            cases h4
            rw [Bool.and_eq_true] at al
            refine Ev.of (pe_callB (cr_sortG (kdT X.prog X.w) encT encT_inj tvT kd_tokT rdT o.calm) hg (o.blt _ (by decide +kernel)) (by decide +kernel)
              (pa_cons (pe_callTy (cr_setG (kdT X.prog X.w) tvT kd_tokT o.calm (by omega)) hg2 (o.blt _ (by decide +kernel)) (by decide +kernel) (pa_cons pe_ev pa_nil (star_cons hs)) (by decide +kernel) (by decide +kernel) (star_cons hs) rfl) pa_nil (star_cons rfl)) (by decide +kernel) (by decide +kernel) (star_cons rfl) rfl) ?_
            refine h F0 ρ Hs st H σ env g ev _ _ q _ fun v H1 ρ1 Hs1 e1 g1 r1 => ?_
            obtain ⟨a, vs, rfl, h5, h6⟩ := Rep.lst.mp r1
            obtain ⟨bs, b1, b2, b3⟩ := tkeys_rep h6 hk
            subst b1
            have lf : ∀ (H' : Hp) {k : List Key} {v : V}, (∀ b u, H1 b = some u → H' b = some u) → tvT Hs1 k v → tvT H' k v := fun H' {k v} kp ⟨b, e, e2⟩ => ⟨b, e, kp _ _ (g1.tup e2)⟩
            refine ⟨a, bs, rfl, SqL.of (g1.lst h5), fun b hb => lf H1 (fun _ _ e => e) (b3 b hb).1, ?_, fun p' L hp hL hm nd => ?_⟩
            · have := h6.length
              rw [List.length_map] at this
              omega
            · have hm2 : ∀ k, k ∈ L.map (·.2) ↔ k ∈ kss := fun k => by rw [hm k, b2]
              have inK : ∀ z ∈ L, z.2 ∈ kss := fun z hz => (hm2 _).mp (List.mem_map.mpr ⟨z, hz, rfl⟩)
              have al2 : PySem.W.AllAlike (L.map fun p => encT p.2) := by
                intro a ha b hb
                obtain ⟨z, hz, rfl⟩ := List.mem_map.mp ha
                obtain ⟨y, hy, rfl⟩ := List.mem_map.mp hb
                exact List.all_eq_true.mp (List.all_eq_true.mp al.1 _ (List.mem_map.mpr ⟨z.2, inK z hz, rfl⟩)) _ (List.mem_map.mpr ⟨y.2, inK y hy, rfl⟩)
              have kp : ∀ b u, H1 b = some u → upd H1 p' (SetX X.prog X.w (kdT X.prog X.w) p' L) b = some u := fun b u e => by rw [upd_ne (ne_of_none e hp)]; exact e
              refine ⟨p', L, rfl, upd_same, fun z hz => ?_, al2, .inl fun z hz => ?_, fun z hz => ?_, fun p2 ys hp2 hy hys => ?_⟩
              · obtain ⟨x, h7, h8⟩ := hL z hz
                exact ⟨x, h7, lf _ kp (b3 _ h8).1⟩
              · obtain ⟨y, hy, rfl⟩ := List.mem_map.mp hz
                have := List.all_eq_true.mp al.2 _ (inK y hy)
                obtain ⟨y1, y2⟩ := y
                cases y2 with
                | nil => cases this
                | cons c r => exact ⟨encK c, r.map encK, rfl⟩
              · have := depth_encT z.2
                omega
              · have es : sortU encT kss = ys.map (·.2) := by rw [hys]; exact (sortU_mem encT_inj hm2).symm
                rw [es, List.map_map] at k
                refine (k.mono e1).lst (g1.own hp) (RepL.of_map fun y hy' => ?_) p2 hp2
                obtain ⟨u, h7, h8⟩ := hy y hy'
                obtain ⟨x, h9, h10⟩ := hL _ h8
                have e5 := RelV.inj h7 h9
                show Rep X.K ρ1 Hs1 (tupD y.2) y.1
                rw [e5]
                exact (b3 _ h10).2
          · cases h4
        · cases h4
    · cases h4
  | _ => cases h4
end
end Q

set_option Elab.async false
set_option linter.all false
set_option maxRecDepth 100000
set_option maxHeartbeats 1000000
namespace Q
open PySem PySem.Spec PyProof.Rows L2
def tyNames : List String := ["NoneType", "bool", "int", "str", "tuple", "list", "dict"]
def clNames : List String := ["int", "bool", "str", "tuple", "list", "dict"]
theorem kit_all : tyNames.all (fun a => clNames.all fun c => decide (kitB a c = some (isiB a c))) = true := by decide +kernel
section
variable {X : Cx} {T : Tab} {k : Nat}
theorem ty_of {d : D} {x : V} {t : String} {F0 Hs H : Hp} {ρ : List Addr} {st : Store} (e : typeName d = some t) (g : Glob X.K F0 ρ Hs st H) (r : Rep X.K ρ Hs d x) : t ∈ tyNames ∧ TyX X.K H x (.type t) := by
  cases d with
  | non => cases e; cases Rep.non.mp r; exact ⟨by decide, .base .non⟩
  | bl b => cases e; cases Rep.bl.mp r; exact ⟨by decide, .base (.bl b)⟩
  | int b => cases e; cases Rep.int.mp r; exact ⟨by decide, .base (.int b)⟩
  | str b => cases e; cases Rep.str.mp r; exact ⟨by decide, .base (.str b)⟩
  | tup b => cases e; obtain ⟨p, vs, rfl, h1, _⟩ := Rep.tup.mp r; exact ⟨by decide, .base (.tup (g.tup h1))⟩
  | lst b => cases e; obtain ⟨p, vs, rfl, h1, _⟩ := Rep.lst.mp r; exact ⟨by decide, .base (.lst (g.lst h1))⟩
  | dK ks xs =>
    cases e
    obtain ⟨p, vs, rfl, _, h1, _⟩ := Rep.dK.mp r
    refine ⟨by decide, ?_⟩
    rcases g.at h1 with h | ⟨_, o, h⟩
    · exact .base (.dK h)
    · exact .fDict h
  | _ => cases e
theorem cls_boot {c : Str} {s : String} (h : clsOf c = some s) : s ∈ clNames ∧ bootBuiltins c = some (.type s) ∧ c ∈ bnames ++ bnames2 ∧ c ≠ "__name__" ∧ (c == ("__debug__" : Str)) = false := by
  unfold clsOf at h
  split at h
  · rename_i z; subst z; cases h; exact ⟨by decide, by decide +kernel, by decide +kernel, by decide +kernel, by decide +kernel⟩
  split at h
  · rename_i z; subst z; cases h; exact ⟨by decide, by decide +kernel, by decide +kernel, by decide +kernel, by decide +kernel⟩
  split at h
  · rename_i z; subst z; cases h; exact ⟨by decide, by decide +kernel, by decide +kernel, by decide +kernel, by decide +kernel⟩
  split at h
  · rename_i z; subst z; cases h; exact ⟨by decide, by decide +kernel, by decide +kernel, by decide +kernel, by decide +kernel⟩
  split at h
  · rename_i z; subst z; cases h; exact ⟨by decide, by decide +kernel, by decide +kernel, by decide +kernel, by decide +kernel⟩
  split at h
  · rename_i z; subst z; cases h; exact ⟨by decide, by decide +kernel, by decide +kernel, by decide +kernel, by decide +kernel⟩
  · cases h
theorem snd_isi {e : Expr} {ce : CE} {c : Str} {p p2 pos : Pos} (o : Ok X k T) (h : SndE X T e ce) (hg : Gl X "isinstance") (hg2 : Gl X c) (hs : notStar e = true) : SndE X T (.Call (.Name "isinstance" p) [e, .Name c p2] [] pos) (.isi ce c) := by
  intro F0 ρ Hs st H σ env g ev d st' he Q k
  unfold evalE at he
  obtain ⟨⟨x1, x2⟩, q, he⟩ := ob he
  obtain ⟨b, h4, he⟩ := om he
  cases he
  obtain ⟨t, ht, h4⟩ := ob h4
  obtain ⟨s, hc, h4⟩ := om h4
  obtain ⟨c1, c2, c3, c4, c5⟩ := cls_boot hc
  refine Ev.of (pe_callB call_isi hg (o.blt _ (by decide +kernel)) (by decide +kernel) (pa_cons pe_ev (pa_cons (pe_bltn (v := .ty s) hg2 (o.blt _ c3) c2 rfl c4 c5) pa_nil) (star_cons hs)) (by decide +kernel) (by decide +kernel) (star_cons hs) rfl) ?_
  refine h F0 ρ Hs st H σ env g ev _ _ q _ fun v H1 ρ1 Hs1 e1 g1 r1 => ?_
  obtain ⟨t1, t2⟩ := ty_of ht g1 r1
  have hk := of_decide_eq_true (List.all_eq_true.mp (List.all_eq_true.mp kit_all t t1) s c1)
  exact ⟨v, .ty s, .type t, .type s, b, rfl, .ty s, t2, by rw [← h4]; exact kit_ty hk, (k.mono e1).flat g1 (Rep.bl.mpr rfl)⟩
/-! ### methods of built-in types -/
theorem dget_of {x1 z1 : D} {v u : V} {r : Option D} {F0 Hs H : Hp} {ρ : List Addr} {st : Store} (h5 : getD x1 z1 = some r) (g : Glob X.K F0 ρ Hs st H) (rv : Rep X.K ρ Hs x1 v) : ∃ a, v = .ref a ∧ IsD H a := by
  cases x1 with
  | dK ks xs =>
    obtain ⟨p, vs, rfl, _, h1, _⟩ := Rep.dK.mp rv
    exact ⟨p, rfl, .inl ⟨_, (g.at h1).rd⟩⟩
  | dT ks xs =>
    obtain ⟨p, vs, rfl, _, h1, _⟩ := Rep.dT.mp rv
    exact ⟨p, rfl, .inr ⟨_, (g.at h1).rd⟩⟩
  | _ => cases h5
theorem lookup_none {ns : List Str} {m : Str} : ∀ {vs : List V}, m ∉ ns → (ns.zip vs).lookup m = none := by
  induction ns with
  | nil => intro vs _; rfl
  | cons n ns ih =>
    intro vs h
    cases vs with
    | nil => rfl
    | cons v vs =>
      rw [List.zip_cons_cons, List.lookup_cons]
      have hne : (m == n) = false := by
        simp only [List.mem_cons, not_or] at h
        simp [h.1]
      rw [hne]
      exact ih fun z => h (List.mem_cons_of_mem _ z)
theorem mc_eval {o : Expr} {m : Str} {apos pos : Pos} {args : List Expr} {env : Env} (hb : okBase o = true) (hs : args.all notStar = true) (hn : args.length < 29) (hl : (apos.endLine == pos.line) = true) :
    eval (.Call (.Attribute o m apos) args [] pos) env = (do
      let ov ← eval o env
      standAt apos.atName
      let (f, first) ← holding [ov] (getMethod ov m (do return (← importBound o env).getD true))
      callWith pos f first (backTo pos (starEach args env)) (backToKw pos (keywordEach [] env))) := by
  refine mcall_of (base_of hb) fun ov => ?_
  have form : methodCallForm (args.length + ([] : List Keyword).length) (backTo pos (starEach args env)) (backToKw pos (keywordEach [] env)) = true := by
    unfold methodCallForm
    have h1 := stars_any (env := env) (pos := pos) hs
    have h2 : (backTo pos (starEach args env)).all (!·.1) = true := by
      rw [List.all_eq_true]
      intro x hx
      cases hx1 : x.1 with
      | false => rfl
      | true =>
        have : (backTo pos (starEach args env)).any (·.1) = true := List.any_eq_true.mpr ⟨x, hx, hx1⟩
        rw [h1] at this; cases this
    rw [h2]
    have h3 : (backToKw pos (keywordEach [] env)) = [] := rfl
    rw [h3]
    simp
    omega
  unfold methodCall
  rw [form]
  unfold calleeOf methodCallPos
  simp only [if_true, hl, Bool.not_true, Bool.false_or]
  rfl
/-- a method of one's own -/
theorem mth_own {o' e : Expr} {es : List Expr} {co : CE} {cl : CL} {m : Str} {ap cp : Pos} (o : Ok X k T) (h1 : SndE X T o' co) (h2 : SndL X T (e :: es) cl) (hb : okBase o' = true) (hs : notStar e = true) (hs2 : es.all notStar = true) (hn : (e :: es).length < 29) (hl : (ap.endLine == cp.line) = true)
    {F0 : Hp} {ρ : List Addr} {Hs : Hp} {st : Store} {H : Hp} {σ : L2.St} {env : List (Option D)} (g : Glob X.K F0 ρ Hs st H) (ev : EnvOk X.K ρ Hs env σ) {d : D} {st' x2 : Store} {c : Str} {ns : List Str} {xs : List D} (q : evalE T co env st = some (.obj c ns xs, x2))
    (he : (if m ∈ ns then none else (T.mth c m).bind fun f => (evalL T cl env x2).bind fun y => f (.obj c ns xs :: y.1) y.2) = some (d, st')) {Q : VK} (k : Cont X.K F0 ρ Hs st' d Q) : Ev X (.Call (.Attribute o' m ap) (e :: es) [] cp) σ H Q := by
  split at he
  · cases he
  · rename_i hm
    obtain ⟨f, h3, he⟩ := ob he
    obtain ⟨⟨y1, y2⟩, q2, he⟩ := ob he
    obtain ⟨fa, fd, ps, c1, c2, c3, c4⟩ := (o.mth c m f h3).ex
    refine Ev.of (pe_methG pe_ev c1 c2 c4 o.gd o.room1 c3 (E := E0) pass0 pa_ev (star_cons hs) (stars_any hs2) (mc_eval hb (by rw [List.all_cons, hs, hs2]; rfl) hn hl)) ?_
    refine h1 F0 ρ Hs st H σ env g ev _ _ q _ fun v H1 ρ1 Hs1 e1 g1 r1 => ?_
    obtain ⟨p, dx, vs, rfl, _, h7, h8⟩ := Rep.obj.mp r1
    refine ⟨p, dx, _, rfl, g1.ins h7, lookup_none hm, ?_⟩
    refine h2 F0 ρ1 Hs1 _ H1 σ env g1 (ev.mono e1) _ _ q2 _ fun us H2 ρ2 Hs2 e2 g2 r2 => ?_
    rw [List.append_nil]
    exact ⟨F0, ρ2, Hs2, y2, .obj c ns xs :: y1, d, st', g2, .cons (e2.rep r1) r2, he, k.mono (e1.trans e2)⟩
theorem snd_mcall1 {o' e : Expr} {co ce : CE} {m : Str} {ap cp : Pos} (o : Ok X k T) (h1 : SndE X T o' co) (h2 : SndE X T e ce) (hb : okBase o' = true) (hs : notStar e = true) (hl : (ap.endLine == cp.line) = true) :
    SndE X T (.Call (.Attribute o' m ap) [e] [] cp) (.mcall co m (.cons ce .nil)) := by
  intro F0 ρ Hs st H σ env g ev d st' he Q k
  unfold evalE at he
  obtain ⟨⟨x1, x2⟩, q, he⟩ := ob he
  by_cases isO : ∃ c ns xs, x1 = .obj c ns xs
  · obtain ⟨c, ns, xs, rfl⟩ := isO
    exact mth_own o h1 (sndL_cons h2 sndL_nil hs) hb hs rfl (by show 1 < 29; decide) hl g ev q he k
  have he2 : (evalL T (.cons ce .nil) env x2).bind (fun y => (methD m x1 y.1).map fun d => (d, y.2)) = some (d, st') := by
    cases x1 with
    | obj c ns xs => exact absurd ⟨c, ns, xs, rfl⟩ isO
    | _ => exact he
  clear he
  obtain ⟨⟨y1, y2⟩, q2, he2⟩ := ob he2
  obtain ⟨d0, h3, he2⟩ := om he2
  cases he2
  unfold evalL at q2
  obtain ⟨⟨z1, z2⟩, q3, q2⟩ := ob q2
  obtain ⟨w, q4, q2⟩ := om q2
  unfold evalL at q4
  cases q4
  cases q2
  unfold methD at h3
  split at h3
  · rename_i z
    subst z
    obtain ⟨r, h5, h6⟩ := om (show (getD x1 z1).map (fun o => o.getD .non) = some d from h3)
    subst h6
    have hu : X.A.units + 1 < cLine := by have := o.units; omega
    refine Ev.of (pe_dget1 hu pe_ev pe_ev ⟨base_of hb, by rw [star_cons hs]; rfl, hl, by rw [star_cons hs]; rfl⟩) ?_
    refine h1 F0 ρ Hs st H σ env g ev _ _ q _ fun v H1 ρ1 Hs1 e1 g1 r1 => ?_
    obtain ⟨a, rfl, hd⟩ := dget_of (u := .non) h5 g1 r1
    refine ⟨a, rfl, hd, ?_⟩
    refine h2 F0 ρ1 Hs1 _ H1 σ env g1 (ev.mono e1) _ _ q3 _ fun u H2 ρ2 Hs2 e2 g2 r2 => ?_
    obtain ⟨p, qq, z1, _, z2, z3⟩ := prim_get h5 g2 (e2.rep r1) r2
    cases z1
    refine ⟨qq, z2, (k.mono (e1.trans e2)).flat g2 ?_⟩
    cases r with
    | none => cases qq with
      | none => exact Rep.non.mpr rfl
      | some _ => exact z3.elim
    | some _ => cases qq with
      | none => exact z3.elim
      | some _ => exact z3
  · split at h3
    · rename_i z
      subst z
      cases x1 with
      | str s =>
        cases z1 with
        | lst xs =>
          obtain ⟨ys, h5, h6⟩ := ob h3
          split at h6
          · rename_i hc
            cases h6
            refine Ev.of (pe_join pe_ev pe_ev (by rw [star_cons hs]; rfl) (base_of hb) hl) ?_
            refine h1 F0 ρ Hs st H σ env g ev _ _ q _ fun v H1 ρ1 Hs1 e1 g1 r1 => ?_
            cases Rep.str.mp r1
            refine ⟨⟨s, rfl⟩, ?_⟩
            refine h2 F0 ρ1 Hs1 _ H1 σ env g1 (ev.mono e1) _ _ q3 _ fun u H2 ρ2 Hs2 e2 g2 r2 => ?_
            obtain ⟨p, vs, rfl, h7, h8⟩ := Rep.lst.mp r2
            cases strsOf_rep h5 h8
            exact ⟨s, p, ys, rfl, rfl, .inl (SqL.of (g2.lst h7)), hc, (k.mono (e1.trans e2)).flat g2 (Rep.str.mpr rfl)⟩
          · cases h6
        | _ => cases h3
      | _ => cases h3
    · cases h3
theorem snd_mcall2 {o' e f : Expr} {co ce cf : CE} {m : Str} {ap cp : Pos} (o : Ok X k T) (h1 : SndE X T o' co) (h2 : SndE X T e ce) (h2f : SndE X T f cf) (hb : okBase o' = true) (hs : notStar e = true) (hsf : notStar f = true) (hl : (ap.endLine == cp.line) = true) :
    SndE X T (.Call (.Attribute o' m ap) [e, f] [] cp) (.mcall co m (.cons ce (.cons cf .nil))) := by
  intro F0 ρ Hs st H σ env g ev d st' he Q k
  unfold evalE at he
  obtain ⟨⟨x1, x2⟩, q, he⟩ := ob he
  by_cases isO : ∃ c ns xs, x1 = .obj c ns xs
  · obtain ⟨c, ns, xs, rfl⟩ := isO
    exact mth_own o h1 (sndL_cons h2 (sndL_cons h2f sndL_nil hsf) hs) hb hs (by rw [List.all_cons, hsf]; rfl) (by show 2 < 29; decide) hl g ev q he k
  have he2 : (evalL T (.cons ce (.cons cf .nil)) env x2).bind (fun y => (methD m x1 y.1).map fun d => (d, y.2)) = some (d, st') := by
    cases x1 with
    | obj c ns xs => exact absurd ⟨c, ns, xs, rfl⟩ isO
    | _ => exact he
  clear he
  obtain ⟨⟨y1, y2⟩, q2, he2⟩ := ob he2
  obtain ⟨d0, h3, he2⟩ := om he2
  cases he2
  unfold evalL at q2
  obtain ⟨⟨z1, z2⟩, q3, q2⟩ := ob q2
  obtain ⟨w, q4, q2⟩ := om q2
  unfold evalL at q4
  obtain ⟨⟨f1, f2⟩, q5, q4⟩ := ob q4
  obtain ⟨w2, q6, q4⟩ := om q4
  unfold evalL at q6
  cases q6
  cases q4
  cases q2
  unfold methD at h3
  split at h3
  · rename_i z
    subst z
    obtain ⟨r, h5, h6⟩ := om (show (getD x1 z1).map (fun o => o.getD f1) = some d from h3)
    subst h6
    have hu : X.A.units + 1 < cLine := by have := o.units; omega
    refine Ev.of (pe_dget2 hu pe_ev pe_ev pe_ev ⟨base_of hb, by rw [star_cons hs, star_cons hsf]; rfl, hl, by rw [star_cons hs, star_cons hsf]; rfl⟩) ?_
    refine h1 F0 ρ Hs st H σ env g ev _ _ q _ fun v H1 ρ1 Hs1 e1 g1 r1 => ?_
    obtain ⟨a, rfl, hd⟩ := dget_of (u := .non) h5 g1 r1
    refine ⟨a, rfl, hd, ?_⟩
    refine h2 F0 ρ1 Hs1 _ H1 σ env g1 (ev.mono e1) _ _ q3 _ fun u H2 ρ2 Hs2 e2 g2 r2 => ?_
    refine h2f F0 ρ2 Hs2 _ H2 σ env g2 (ev.mono (e1.trans e2)) _ _ q5 _ fun u2 H3 ρ3 Hs3 e3 g3 r3 => ?_
    obtain ⟨p, qq, z1, _, z2, z3⟩ := prim_get h5 g3 ((e2.trans e3).rep r1) (e3.rep r2)
    cases z1
    refine ⟨qq, z2, (k.mono ((e1.trans e2).trans e3)).flat g3 ?_⟩
    cases r with
    | none => cases qq with
      | none => exact r3
      | some _ => exact z3.elim
    | some _ => cases qq with
      | none => exact z3.elim
      | some _ => exact z3
  · split at h3
    · cases x1 <;> cases z1 <;> cases h3
    · cases h3
theorem methD_long {m : Str} {a : D} {ds : List D} (h : 3 ≤ ds.length) : methD m a ds = none := by
  unfold methD
  match ds, h with
  | x :: y :: z :: r, _ => split; rfl; split; cases a <;> cases x <;> rfl; rfl
theorem snd_mcallN {o' e1 e2 e3 : Expr} {es : List Expr} {co : CE} {cl : CL} {m : Str} {ap cp : Pos} (o : Ok X k T) (h1 : SndE X T o' co) (h2 : SndL X T (e1 :: e2 :: e3 :: es) cl) (hcl : 3 ≤ cl.len) (hb : okBase o' = true) (hs : notStar e1 = true) (hs2 : (e2 :: e3 :: es).all notStar = true) (hn : (e1 :: e2 :: e3 :: es).length < 29) (hl : (ap.endLine == cp.line) = true) :
    SndE X T (.Call (.Attribute o' m ap) (e1 :: e2 :: e3 :: es) [] cp) (.mcall co m cl) := by
  intro F0 ρ Hs st H σ env g ev d st' he Q k
  unfold evalE at he
  obtain ⟨⟨x1, x2⟩, q, he⟩ := ob he
  by_cases isO : ∃ c ns xs, x1 = .obj c ns xs
  · obtain ⟨c, ns, xs, rfl⟩ := isO
    exact mth_own o h1 h2 hb hs hs2 hn hl g ev q he k
  · have he2 : (evalL T cl env x2).bind (fun y => (methD m x1 y.1).map fun d => (d, y.2)) = some (d, st') := by
      cases x1 with
      | obj c ns xs => exact absurd ⟨c, ns, xs, rfl⟩ isO
      | _ => exact he
    obtain ⟨⟨y1, y2⟩, q2, he2⟩ := ob he2
    obtain ⟨d0, h3, he2⟩ := om he2
    rw [methD_long (by rw [evalL_len q2]; exact hcl)] at h3
    cases h3
/-! ### attributes -/
theorem lookup_rep {K : PySem.W.Frag} {ρ : List Addr} {H : Hp} (m : Str) : ∀ {ns : List Str} {xs : List D} {vs : List V} {d : D}, RepL K ρ H xs vs → valD ns xs m = some d → ∃ v, (ns.zip vs).lookup m = some v ∧ Rep K ρ H d v
  | [], xs, vs, d, r, e => by cases xs <;> simp [valD] at e
  | n :: ns, [], vs, d, r, e => by simp [valD] at e
  | n :: ns, x :: xs, vs, d, r, e => by
    obtain ⟨v, q, rfl, hx, t⟩ := RepL.cons_iff.mp r
    unfold valD at e
    rw [List.zip_cons_cons, List.lookup_cons]
    by_cases h : n = m
    · rw [if_pos h] at e
      cases e
      have : (m == n) = true := by simp [h]
      rw [this]
      exact ⟨v, rfl, hx⟩
    · rw [if_neg h] at e
      have : (m == n) = false := by simp [Ne.symm h]
      rw [this]
      exact lookup_rep m t e
theorem snd_attr {a : Expr} {ca : CE} {m : Str} {pos : Pos} (o : Ok X k T) (h1 : SndE X T a ca) (hb : okBase a = true) : SndE X T (.Attribute a m pos) (.attr ca m) := by
  intro F0 ρ Hs st H σ env g ev d st' he Q k
  unfold evalE at he
  obtain ⟨⟨x1, x2⟩, q, he⟩ := ob he
  cases x1 with
  | obj c ns xs =>
    dsimp only at he
    split at he
    · rename_i hm
      obtain ⟨d0, h2, he⟩ := om he
      cases he
      obtain ⟨c1, c2⟩ := o.fld c m hm
      refine Ev.of (pe_fld pe_ev (base_of hb)) ?_
      refine h1 F0 ρ Hs st H σ env g ev _ _ q _ fun v H1 ρ1 Hs1 e1 g1 r1 => ?_
      obtain ⟨p, dx, vs, rfl, _, h3, h4⟩ := Rep.obj.mp r1
      obtain ⟨w, h5, h6⟩ := lookup_rep m h4 h2
      exact ⟨p, _, dx, _, w, rfl, g1.ins h3, c1, c2, h5, (k.mono e1).flat g1 h6⟩
    · obtain ⟨f, h2, he⟩ := ob he
      obtain ⟨pp, fa, fd, ps, h3, h4, h5, h6⟩ := (o.prop c m f h2).ex
      refine Ev.of (pe_propG (c := h3) pe_ev h4 h6 o.gd o.room h5 (E := E0) pass0 (base_of hb)) ?_
      refine h1 F0 ρ Hs st H σ env g ev _ _ q _ fun v H1 ρ1 Hs1 e1 g1 r1 => ?_
      obtain ⟨p, dx, vs, rfl, _, h7, h8⟩ := Rep.obj.mp r1
      exact ⟨p, dx, _, rfl, g1.ins h7, F0, ρ1, Hs1, x2, [.obj c ns xs], d, st', g1, .cons r1 .nil, he, k.mono e1⟩
  | inst dx c ns xs =>
    dsimp only at he
    split at he
    · rename_i hm
      obtain ⟨d0, h2, he⟩ := om he
      cases he
      obtain ⟨c1, c2⟩ := o.fld c m hm
      refine Ev.of (pe_fld pe_ev (base_of hb)) ?_
      refine h1 F0 ρ Hs st H σ env g ev _ _ q _ fun v H1 ρ1 Hs1 e1 g1 r1 => ?_
      obtain ⟨p, vs, rfl, _, h3, h4⟩ := Rep.inst.mp r1
      obtain ⟨w, h5, h6⟩ := lookup_rep m h4 h2
      exact ⟨p, _, dx, _, w, rfl, g1.ins h3, c1, c2, h5, (k.mono e1).flat g1 h6⟩
    · cases he
  | _ => cases he
end
end Q

set_option Elab.async false
set_option linter.all false
set_option maxRecDepth 100000
set_option maxHeartbeats 1000000
namespace Q
open PySem PySem.Spec PyProof.Rows L2
/-- the iterator goes along this data, whatever happens meanwhile -/
def WD (K : PySem.W.Frag) (J : It) (ρ0 : List Addr) (Hs0 : Hp) (ds : List D) : Prop := ∀ F0 ρ Hs st H (i : Nat), Ext ρ0 Hs0 ρ Hs → Glob K F0 ρ Hs st H →
  (∀ d, ds[i]? = some d → J.go i H ∧ ∀ x H', J.yld i H x H' → ∃ Hs', Ext ρ Hs ρ Hs' ∧ Glob K F0 ρ Hs' st H' ∧ Rep K ρ Hs' d x) ∧ (ds.length ≤ i → J.stop i H)
def isRng : CI → Bool
  | .rng1 _ => true
  | .rng2 _ _ => true
  | _ => false
abbrev ContI (K : PySem.W.Frag) (F0 : Hp) (ρ : List Addr) (Hs : Hp) (st : Store) (ds : List D) (rg : Bool) (R : It → Hp → Prop) : Prop :=
  ∀ J H' ρ' Hs', Ext ρ Hs ρ' Hs' → Glob K F0 ρ' Hs' st H' → WD K J ρ' Hs' ds → (rg = true → ∀ ρ2 Hs2, WD K J ρ2 Hs2 ds) → ds.length ≤ sizeLine → R J H'
/-- a dict that is walked is locked -/
def LockOk (Hs : Hp) (σ : L2.St) (env : List (Option D)) : CI → Prop
  | .ex (.var i) => ∀ d, env[i]? = some (some d) → isDict d = true → ∃ a o u, σ[i]? = some (some (.ref a)) ∧ Hs a = some (.frz o u)
  | _ => True
def SndI (X : Cx) (T : Tab) (tg iter : Expr) (c : CI) : Prop := ∀ F0 ρ Hs st H σ env, Glob X.K F0 ρ Hs st H → EnvOk X.K ρ Hs env σ → LockOk Hs σ env c → ∀ ds st', evalI T c env st = some (ds, st') → ∀ R, ContI X.K F0 ρ Hs st' ds (isRng c) R → EvI X tg iter σ H R
section
variable {K : PySem.W.Frag} {ρ : List Addr} {Hs : Hp}
theorem wd_list {a : Addr} {xs : List D} {vs : List V} (h : Hs a = some (.lst vs)) (r : RepL K ρ Hs xs vs) : WD K (Itl K a) ρ Hs xs := by
  intro F0 ρ1 Hs1 st H i e g
  have hq : SqL K H a vs := SqL.of (g.lst (e.sub _ _ h))
  refine ⟨fun d hd => ?_, fun hi => ⟨vs, hq, by rw [← r.length]; exact hi⟩⟩
  obtain ⟨v, h1, h2⟩ := r.get hd
  refine ⟨⟨vs, v, hq, h1⟩, fun x H' ⟨h3, h4⟩ => ?_⟩
  subst h3
  have := h4 vs hq
  rw [h1] at this
  cases this
  exact ⟨Hs1, Ext.refl _ _, g, e.rep h2⟩
theorem wd_tup {a : Addr} {xs : List D} {vs : List V} (h : Hs a = some (.tup vs)) (r : RepL K ρ Hs xs vs) : WD K (Itt K a) ρ Hs xs := by
  intro F0 ρ1 Hs1 st H i e g
  have hq : SqT K H a vs := SqT.of (g.tup (e.sub _ _ h))
  refine ⟨fun d hd => ?_, fun hi => ⟨vs, hq, by rw [← r.length]; exact hi⟩⟩
  obtain ⟨v, h1, h2⟩ := r.get hd
  refine ⟨⟨vs, v, hq, h1⟩, fun x H' ⟨h3, h4⟩ => ?_⟩
  subst h3
  have := h4 vs hq
  rw [h1] at this
  cases this
  exact ⟨Hs1, Ext.refl _ _, g, e.rep h2⟩
theorem wd_str {s : Str} : WD K (Its s) ρ Hs (s.cps.toList.map fun c => D.str ⟨#[c]⟩) := by
  intro F0 ρ1 Hs1 st H i e g
  refine ⟨fun d hd => ?_, fun hi => by show s.cps.size ≤ i; simpa using hi⟩
  rw [List.getElem?_map] at hd
  obtain ⟨c, h1, h2⟩ := om hd
  subst h2
  have h3 : s.cps[i]? = some c := by simpa using h1
  refine ⟨(Array.getElem?_eq_some_iff.mp h3).1, fun x H' ⟨h4, c', h5, h6⟩ => ?_⟩
  subst h4
  rw [h3] at h5
  cases h5
  exact ⟨Hs1, Ext.refl _ _, g, Rep.str.mpr h6⟩
theorem wd_rng {lo : Int} {n : Nat} : WD K (Itr lo n) ρ Hs ((List.range n).map fun (i : Nat) => D.int (lo + (i : Int))) := by
  intro F0 ρ1 Hs1 st H i e g
  refine ⟨fun d hd => ?_, fun hi => by show n ≤ i; simpa using hi⟩
  rw [List.getElem?_map] at hd
  obtain ⟨c, h1, h2⟩ := om hd
  subst h2
  obtain ⟨h3, h4⟩ := List.getElem?_eq_some_iff.mp h1
  rw [List.getElem_range] at h4
  subst h4
  rw [List.length_range] at h3
  refine ⟨h3, fun x H' ⟨h4, h5⟩ => ?_⟩
  subst h4
  exact ⟨Hs1, Ext.refl _ _, g, Rep.int.mpr h5⟩
/-- a new pair -/
theorem pair_new {F0 : Hp} {st : Store} {H : Hp} {T : Addr} {d1 d2 : D} {x y : V} (g : Glob K F0 ρ Hs st H) (hT : H T = none) (r1 : Rep K ρ Hs d1 x) (r2 : Rep K ρ Hs d2 y) :
    ∃ Hs', Ext ρ Hs ρ Hs' ∧ Glob K F0 ρ Hs' st (upd H T (.tup [x, y])) ∧ Rep K ρ Hs' (.tup [d1, d2]) (.ref T) := by
  refine ⟨upd Hs T (.tup [x, y]), Ext.upd (g.fresh hT), g.new hT, Rep.tup.mpr ⟨T, [x, y], rfl, upd_same, ?_⟩⟩
  have e := Ext.upd (ρ := ρ) (o := .tup [x, y]) (g.fresh hT)
  exact .cons (e.rep r1) (.cons (e.rep r2) .nil)
theorem zip_get {xs ys : List D} {i : Nat} {d : D} (h : (zipDD xs ys)[i]? = some d) : ∃ a b, xs[i]? = some a ∧ ys[i]? = some b ∧ d = .tup [a, b] := by
  unfold zipDD at h
  rw [List.getElem?_map] at h
  obtain ⟨p, h1, h2⟩ := om h
  rw [List.getElem?_zip_eq_some] at h1
  exact ⟨p.1, p.2, h1.1, h1.2, h2.symm⟩
theorem zip_len (xs ys : List D) : (zipDD xs ys).length = min xs.length ys.length := by unfold zipDD; rw [List.length_map, List.length_zip]
theorem wd_zip {a b : Addr} {xs ys : List D} {vs us : List V} (h : Hs a = some (.lst vs)) (r : RepL K ρ Hs xs vs) (h' : Hs b = some (.lst us)) (r' : RepL K ρ Hs ys us) : WD K (Itz K a b) ρ Hs (zipDD xs ys) := by
  intro F0 ρ1 Hs1 st H i e g
  have hq : SqL K H a vs := SqL.of (g.lst (e.sub _ _ h))
  have hq' : SqL K H b us := SqL.of (g.lst (e.sub _ _ h'))
  refine ⟨fun d hd => ?_, fun hi => ⟨vs, us, hq, hq', ?_⟩⟩
  · obtain ⟨d1, d2, z1, z2, rfl⟩ := zip_get hd
    obtain ⟨v, h1, h2⟩ := r.get z1
    obtain ⟨u, h3, h4⟩ := r'.get z2
    refine ⟨⟨vs, us, v, u, hq, hq', h1, h3⟩, fun x H' ⟨T, x1, y1, w1, w2, w3, w4, w5⟩ => ?_⟩
    subst w1 w3
    have e1 := w4 vs hq
    have e2 := w5 us hq'
    rw [h1] at e1
    rw [h3] at e2
    cases e1
    cases e2
    exact pair_new g w2 (e.rep h2) (e.rep h4)
  · rw [zip_len] at hi
    rw [← r.length, ← r'.length]
    omega
theorem wd_zipT {a b : Addr} {xs ys : List D} {vs us : List V} (h : Hs a = some (.tup vs)) (r : RepL K ρ Hs xs vs) (h' : Hs b = some (.tup us)) (r' : RepL K ρ Hs ys us) : WD K (RZ.ItzT K a b) ρ Hs (zipDD xs ys) := by
  intro F0 ρ1 Hs1 st H i e g
  have hq : SqT K H a vs := SqT.of (g.tup (e.sub _ _ h))
  have hq' : SqT K H b us := SqT.of (g.tup (e.sub _ _ h'))
  refine ⟨fun d hd => ?_, fun hi => ⟨vs, us, hq, hq', ?_⟩⟩
  · obtain ⟨d1, d2, z1, z2, rfl⟩ := zip_get hd
    obtain ⟨v, h1, h2⟩ := r.get z1
    obtain ⟨u, h3, h4⟩ := r'.get z2
    refine ⟨⟨vs, us, v, u, hq, hq', h1, h3⟩, fun x H' ⟨T, x1, y1, w1, w2, w3, w4, w5⟩ => ?_⟩
    subst w1 w3
    have e1 := w4 vs hq
    have e2 := w5 us hq'
    rw [h1] at e1
    rw [h3] at e2
    cases e1
    cases e2
    exact pair_new g w2 (e.rep h2) (e.rep h4)
  · rw [zip_len] at hi
    rw [← r.length, ← r'.length]
    omega
theorem enum_get {xs : List D} {i : Nat} {d : D} (h : (enumD xs)[i]? = some d) : ∃ a, xs[i]? = some a ∧ d = .tup [.int i, a] := by
  unfold enumD at h
  rw [List.getElem?_map] at h
  obtain ⟨p, h1, h2⟩ := om h
  rw [List.getElem?_zipIdx] at h1
  obtain ⟨a, h3, h4⟩ := om h1
  subst h4
  exact ⟨a, h3, by rw [← h2]; simp⟩
theorem wd_enum {a : Addr} {xs : List D} {vs : List V} (h : Hs a = some (.lst vs)) (r : RepL K ρ Hs xs vs) : WD K (Ite K a) ρ Hs (enumD xs) := by
  intro F0 ρ1 Hs1 st H i e g
  have hq : SqL K H a vs := SqL.of (g.lst (e.sub _ _ h))
  refine ⟨fun d hd => ?_, fun hi => ⟨vs, hq, by rw [← r.length]; simpa [enumD] using hi⟩⟩
  obtain ⟨d1, z1, rfl⟩ := enum_get hd
  obtain ⟨v, h1, h2⟩ := r.get z1
  refine ⟨⟨vs, v, hq, h1⟩, fun x H' ⟨T, x1, w1, w2, w3, w4⟩ => ?_⟩
  subst w1 w3
  have e1 := w4 vs hq
  rw [h1] at e1
  cases e1
  exact pair_new g w2 (Rep.int.mpr rfl) (e.rep h2)
theorem wd_enumT {a : Addr} {xs : List D} {vs : List V} (h : Hs a = some (.tup vs)) (r : RepL K ρ Hs xs vs) : WD K (IteT K a) ρ Hs (enumD xs) := by
  intro F0 ρ1 Hs1 st H i e g
  have hq : SqT K H a vs := SqT.of (g.tup (e.sub _ _ h))
  refine ⟨fun d hd => ?_, fun hi => ⟨vs, hq, by rw [← r.length]; simpa [enumD] using hi⟩⟩
  obtain ⟨d1, z1, rfl⟩ := enum_get hd
  obtain ⟨v, h1, h2⟩ := r.get z1
  refine ⟨⟨vs, v, hq, h1⟩, fun x H' ⟨T, x1, w1, w2, w3, w4⟩ => ?_⟩
  subst w1 w3
  have e1 := w4 vs hq
  rw [h1] at e1
  cases e1
  exact pair_new g w2 (Rep.int.mpr rfl) (e.rep h2)
theorem kV_rep {k : Key} : Rep K ρ Hs (keyD k) (kV k) := by
  cases k with
  | inl i => exact Rep.int.mpr rfl
  | inr i => exact Rep.str.mpr rfl
theorem kVs_rep : ∀ {ks : List Key}, RepL K ρ Hs (ks.map keyD) (ks.map kV)
  | [] => .nil
  | k :: ks => .cons kV_rep kVs_rep
theorem wd_keys {a : Addr} {o : Obj} {ks : List Key} {vs : List V} (hl : ks.length = vs.length) (h : Hs a = some (.frz o (.dK (ks.zip vs)))) : WD K (Itk a o (ks.zip vs)) ρ Hs (ks.map keyD) := by
  intro F0 ρ1 Hs1 st H i e g
  have hq := g.frz (e.sub _ _ h)
  have hlen : (ks.zip vs).length = ks.length := by rw [List.length_zip]; omega
  refine ⟨fun d hd => ?_, fun hi => ⟨hq, by rw [hlen]; simpa using hi⟩⟩
  rw [List.getElem?_map] at hd
  obtain ⟨k, h1, h2⟩ := om hd
  subst h2
  have hi : i < ks.length := (List.getElem?_eq_some_iff.mp h1).1
  refine ⟨⟨hq, by rw [hlen]; exact hi⟩, fun x H' ⟨w1, k', v', w2, w3⟩ => ?_⟩
  subst w1
  rw [List.getElem?_zip_eq_some] at w2
  rw [w2.1] at h1
  cases h1
  subst w3
  exact ⟨Hs1, Ext.refl _ _, g, kV_rep⟩
theorem wd_keysT {a : Addr} {o : Obj} {ks : List (List Key)} {vs : List V} (hl : ks.length = vs.length) (h : Hs a = some (.frz o (.dT (ks.zip vs)))) : WD K (Itkt a o (ks.zip vs)) ρ Hs (ks.map fun k => .tup (k.map keyD)) := by
  intro F0 ρ1 Hs1 st H i e g
  have hq := g.frz (e.sub _ _ h)
  have hlen : (ks.zip vs).length = ks.length := by rw [List.length_zip]; omega
  refine ⟨fun d hd => ?_, fun hi => ⟨hq, by rw [hlen]; simpa using hi⟩⟩
  rw [List.getElem?_map] at hd
  obtain ⟨k, h1, h2⟩ := om hd
  subst h2
  have hi : i < ks.length := (List.getElem?_eq_some_iff.mp h1).1
  refine ⟨⟨hq, by rw [hlen]; exact hi⟩, fun x H' ⟨w1, k', v', q, w2, w3, w4⟩ => ?_⟩
  subst w1
  rw [List.getElem?_zip_eq_some] at w2
  rw [w2.1] at h1
  cases h1
  subst w3
  cases hs : Hs1 q with
  | some u =>
    have e2 : u = .tup (k'.map kV) := by
      have z := g.le q u hs
      rw [w4] at z; cases z; rfl
    subst e2
    exact ⟨Hs1, Ext.refl _ _, g, Rep.tup.mpr ⟨q, _, rfl, hs, kVs_rep⟩⟩
  | none =>
    have hf : F0 q = none := by
      cases z : F0 q with
      | none => rfl
      | some u =>
        obtain ⟨z1, _, _, z4⟩ := g.foe q u z
        rw [w4] at z1
        cases z1
        exact absurd rfl (z4 _)
    have hc : q ∉ ρ1 := fun hm => by
      obtain ⟨j, hj, e3⟩ := List.mem_iff_getElem.mp hm
      have hj2 : j < st.length := g.len ▸ hj
      obtain ⟨a', h3, h4, _⟩ := g.cell j st[j] (List.getElem?_eq_getElem hj2)
      rw [List.getElem?_eq_getElem hj, e3] at h3
      cases h3
      rw [w4] at h4
      cases h4
    exact ⟨upd Hs1 q (.tup (k'.map kV)), Ext.upd hs, g.freeze w4 hs hf hc, Rep.tup.mpr ⟨q, _, rfl, upd_same, kVs_rep⟩⟩
end
section
variable {X : Cx} {T : Tab} {k : Nat}
theorem EvI.inv {tg it : Expr} {σ : L2.St} {H : Hp} {R : It → Hp → Prop} (h : Bnd H → EvI X tg it σ H R) : EvI X tg it σ H R := fun pins s I => h (Inv.bnd I) pins s I
theorem EvA.one {e : Expr} {σ : L2.St} {H : Hp} {Q : List V → Hp → Prop} (hs : notStar e = true) (h : Ev X e σ H fun v H' => Q [v] H') : EvA X [e] σ H Q := EvA.of (pa_cons pe_ev pa_nil (star_cons hs)) h
theorem EvA.two {e f : Expr} {σ : L2.St} {H : Hp} {Q : List V → Hp → Prop} (hs : notStar e = true) (hs2 : notStar f = true) (h : Ev X e σ H fun v H1 => Ev X f σ H1 fun u H2 => Q [v, u] H2) : EvA X [e, f] σ H Q :=
  EvA.of (pa_cons pe_ev (pa_cons pe_ev pa_nil (star_cons hs2)) (star_cons hs)) h
theorem rep_items {d : D} {ds : List D} {v : V} {tg e : Expr} {σ : L2.St} {F0 Hs H : Hp} {ρ : List Addr} {st : Store} {R : It → Hp → Prop} : True := trivial
theorem sndI_it {tg e : Expr} {c : CE} (h : SndE X T e c) {F0 ρ Hs st H σ env} (g : Glob X.K F0 ρ Hs st H) (ev : EnvOk X.K ρ Hs env σ) {x1 : D} {x2 : Store} {ds : List D} (q : evalE T c env st = some (x1, x2)) (h4 : itemsOf x1 = some ds) {R : It → Hp → Prop} (kk : ContI X.K F0 ρ Hs x2 ds false R) : EvI X tg e σ H R := by
  cases x1 with
  | lst xs =>
    cases h4
    refine EvI.of (pi_list pe_ev) ?_
    refine Ev.bnd (h F0 ρ Hs st H σ env g ev _ _ q _ fun v H1 ρ1 Hs1 e1 g1 r1 => fun bd => ?_)
    obtain ⟨p, vs, rfl, h5, h6⟩ := Rep.lst.mp r1
    exact ⟨p, rfl, ⟨vs, SqL.of (g1.lst h5)⟩, kk _ _ _ _ e1 g1 (wd_list h5 h6) (fun z => by cases z) (by rw [h6.length]; exact (bd p).1 _ (g1.lst h5))⟩
  | tup xs =>
    cases h4
    refine EvI.of (pi_tup pe_ev) ?_
    refine Ev.bnd (h F0 ρ Hs st H σ env g ev _ _ q _ fun v H1 ρ1 Hs1 e1 g1 r1 => fun bd => ?_)
    obtain ⟨p, vs, rfl, h5, h6⟩ := Rep.tup.mp r1
    exact ⟨p, rfl, ⟨vs, SqT.of (g1.tup h5)⟩, kk _ _ _ _ e1 g1 (wd_tup h5 h6) (fun z => by cases z) (by rw [h6.length]; exact (bd p).2.1 _ (g1.tup h5))⟩
  | str s =>
    unfold itemsOf at h4
    dsimp only at h4
    split at h4
    · rename_i hl
      cases h4
      refine EvI.of (pi_str pe_ev) ?_
      refine h F0 ρ Hs st H σ env g ev _ _ q _ fun v H1 ρ1 Hs1 e1 g1 r1 => ?_
      cases Rep.str.mp r1
      exact ⟨s, rfl, kk _ _ _ _ e1 g1 wd_str (fun z => by cases z) (by rw [List.length_map, Array.length_toList]; exact hl)⟩
    · cases h4
  | _ => cases h4
theorem sndI_ex {tg e : Expr} {c : CE} (h : SndE X T e c) (hv : isVar c = false) : SndI X T tg e (.ex c) := by
  intro F0 ρ Hs st H σ env g ev lk ds st' he R kk
  unfold evalI at he
  obtain ⟨⟨x1, x2⟩, q, he⟩ := ob he
  obtain ⟨d0, h3, he⟩ := om he
  cases he
  rw [hv] at h3
  exact sndI_it h g ev q h3 kk
theorem sndI_var {tg : Expr} {i : Nat} {x : Str} {pos : Pos} (hN : X.N[i]? = some x) (hvis : Vis X.env.scope x) (hd : (x == ("__debug__" : Str)) = false) (hcd : (x == ("__classdict__" : Str)) = false) : SndI X T tg (.Name x pos) (.ex (.var i)) := by
  intro F0 ρ Hs st H σ env g ev lk ds st' he R kk
  unfold evalI at he
  obtain ⟨⟨x1, x2⟩, q, he⟩ := ob he
  obtain ⟨d0, h3, he⟩ := om he
  cases he
  have h3 : keysD x1 = some ds := h3
  have hsnd : SndE X T (.Name x pos) (.var i) := snd_var hN hvis hd hcd
  cases hdd : isDict x1 with
  | false =>
    refine sndI_it hsnd g ev q ?_ kk
    cases x1 with
    | dK _ _ => cases hdd
    | dT _ _ => cases hdd
    | _ => exact h3
  | true =>
    have q0 := q
    unfold evalE at q
    cases qe : env[i]? with
    | none => rw [qe] at q; cases q
    | some od =>
      rw [qe] at q
      cases od with
      | none => cases q
      | some dd =>
        cases q
        obtain ⟨a, o, u, l1, l2⟩ := lk _ qe hdd
        obtain ⟨v, l3, r1⟩ := ev.at_ i _ qe
        rw [l1] at l3
        cases l3
        refine EvI.inv fun bd => ?_
        refine EvI.of (pi_keys (pe_var hN hvis hd hcd)) ?_
        refine ⟨_, l1, ?_⟩
        cases x1 with
        | dK ks xs =>
          cases h3
          obtain ⟨p, vs, hp, hl, h5, h6⟩ := Rep.dK.mp r1
          cases hp
          have h7 : Hs a = some (.frz o (.dK (ks.zip vs))) := by
            rcases h5 with z | ⟨_, o', z⟩
            · rw [l2] at z; cases z
            · rw [l2] at z; cases z; exact l2
          refine ⟨a, o, rfl, .inl ⟨_, g.frz h7, kk _ _ _ _ (Ext.refl _ _) g (wd_keys (by rw [hl, h6.length]) h7) (fun z => by cases z) ?_⟩⟩
          have z := (bd a).2.2.1 _ (.inr ⟨o, g.frz h7⟩)
          rw [List.length_zip] at z
          rw [List.length_map]
          have := h6.length
          omega
        | dT ks xs =>
          cases h3
          obtain ⟨p, vs, hp, hl, h5, h6⟩ := Rep.dT.mp r1
          cases hp
          have h7 : Hs a = some (.frz o (.dT (ks.zip vs))) := by
            rcases h5 with z | ⟨_, o', z⟩
            · rw [l2] at z; cases z
            · rw [l2] at z; cases z; exact l2
          refine ⟨a, o, rfl, .inr ⟨_, g.frz h7, kk _ _ _ _ (Ext.refl _ _) g (wd_keysT (by rw [hl, h6.length]) h7) (fun z => by cases z) ?_⟩⟩
          have z := (bd a).2.2.2 _ (.inr ⟨o, g.frz h7⟩)
          rw [List.length_zip] at z
          rw [List.length_map]
          have := h6.length
          omega
        | _ => cases hdd
theorem sndI_rng1 {tg e : Expr} {c : CE} {p pos : Pos} (o : Ok X k T) (h : SndE X T e c) (hg : Gl X "range") (hs : notStar e = true) : SndI X T tg (.Call (.Name "range" p) [e] [] pos) (.rng1 c) := by
  intro F0 ρ Hs st H σ env g ev lk ds st' he R kk
  unfold evalI at he
  obtain ⟨⟨x1, x2⟩, q, he⟩ := ob he
  cases x1 with
  | int i =>
    obtain ⟨d0, h3, he⟩ := om he
    cases he
    unfold rngD at h3
    split at h3
    · rename_i hc
      cases h3
      refine EvI.of (pi_range1 hg (o.blt _ (by decide +kernel)) pa_ev (by rw [star_cons hs]; rfl)) ?_
      refine EvA.one hs ?_
      refine h F0 ρ Hs st H σ env g ev _ _ q _ fun v H1 ρ1 Hs1 e1 g1 r1 => ?_
      cases Rep.int.mp r1
      refine ⟨i, rfl, hc.2.2.1, hc.2.2.2.1, ?_⟩
      have e0 : (i - 0).toNat = i.toNat := by rw [Int.sub_zero]
      have z := kk (Itr 0 i.toNat) H1 ρ1 Hs1 e1 g1 (by rw [e0]; exact wd_rng) (fun _ _ _ => by rw [e0]; exact wd_rng) (by rw [List.length_map, List.length_range]; exact hc.2.2.2.2)
      exact z
    · cases h3
  | _ => cases he
theorem sndI_rng2 {tg e f : Expr} {c c' : CE} {p pos : Pos} (o : Ok X k T) (h : SndE X T e c) (h' : SndE X T f c') (hg : Gl X "range") (hs : notStar e = true) (hs' : notStar f = true) : SndI X T tg (.Call (.Name "range" p) [e, f] [] pos) (.rng2 c c') := by
  intro F0 ρ Hs st H σ env g ev lk ds st' he R kk
  unfold evalI at he
  obtain ⟨⟨x1, x2⟩, q, he⟩ := ob he
  obtain ⟨⟨y1, y2⟩, q2, he⟩ := ob he
  cases x1 with
  | int i =>
    cases y1 with
    | int j =>
      obtain ⟨d0, h3, he⟩ := om he
      cases he
      unfold rngD at h3
      split at h3
      · rename_i hc
        cases h3
        refine EvI.of (pi_range2 hg (o.blt _ (by decide +kernel)) pa_ev (by rw [star_cons hs, star_cons hs']; rfl) (by rw [star_cons hs']; rfl)) ?_
        refine EvA.two hs hs' ?_
        refine h F0 ρ Hs st H σ env g ev _ _ q _ fun v H1 ρ1 Hs1 e1 g1 r1 => ?_
        refine h' F0 ρ1 Hs1 _ H1 σ env g1 (ev.mono e1) _ _ q2 _ fun u H2 ρ2 Hs2 e2 g2 r2 => ?_
        cases Rep.int.mp r1
        cases Rep.int.mp r2
        exact ⟨i, j, rfl, ⟨hc.1, hc.2.1, hc.2.2.1, hc.2.2.2.1⟩, kk _ _ _ _ (e1.trans e2) g2 wd_rng (fun _ _ _ => wd_rng) (by rw [List.length_map, List.length_range]; exact hc.2.2.2.2)⟩
      · cases h3
    | _ => cases he
  | _ => cases y1 <;> cases he
theorem sndI_zip {es : List Expr} {kk : Nat} {tpos : Pos} {e f : Expr} {c c' : CE} {p pos : Pos} (o : Ok X k T) (h : SndE X T e c) (h' : SndE X T f c') (hg : Gl X "zip") (hs : notStar e = true) (hs' : notStar f = true) :
    SndI X T (.Tuple es kk tpos) (.Call (.Name "zip" p) [e, f] [] pos) (.zip c c') := by
  intro F0 ρ Hs st H σ env g ev lk ds st' he R kq
  unfold evalI at he
  obtain ⟨⟨x1, x2⟩, q, he⟩ := ob he
  obtain ⟨⟨y1, y2⟩, q2, he⟩ := ob he
  refine EvI.of (RZ.pi_zipA hg (o.blt _ (by decide +kernel)) pa_ev (star_cons hs) (by rw [star_cons hs']; rfl)) ?_
  refine EvA.two hs hs' ?_
  refine h F0 ρ Hs st H σ env g ev _ _ q _ fun v H1 ρ1 Hs1 e1 g1 r1 => ?_
  refine Ev.bnd (h' F0 ρ1 Hs1 _ H1 σ env g1 (ev.mono e1) _ _ q2 _ fun u H2 ρ2 Hs2 e2 g2 r2 => fun bd => ?_)
  cases x1 with
  | lst xs =>
    cases y1 with
    | lst ys =>
      cases he
      obtain ⟨p, vs, rfl, h5, h6⟩ := Rep.lst.mp (e2.rep r1)
      obtain ⟨p', us, rfl, h7, h8⟩ := Rep.lst.mp r2
      refine ⟨p, p', vs, us, rfl, .inl ⟨SqL.of (g2.lst h5), SqL.of (g2.lst h7), kq _ _ _ _ (e1.trans e2) g2 (wd_zip h5 h6 h7 h8) (fun z => by cases z) ?_⟩⟩
      have := (bd p).1 _ (g2.lst h5)
      rw [zip_len, h6.length]
      omega
    | _ => cases he
  | tup xs =>
    cases y1 with
    | tup ys =>
      cases he
      obtain ⟨p, vs, rfl, h5, h6⟩ := Rep.tup.mp (e2.rep r1)
      obtain ⟨p', us, rfl, h7, h8⟩ := Rep.tup.mp r2
      refine ⟨p, p', vs, us, rfl, .inr ⟨SqT.of (g2.tup h5), SqT.of (g2.tup h7), kq _ _ _ _ (e1.trans e2) g2 (wd_zipT h5 h6 h7 h8) (fun z => by cases z) ?_⟩⟩
      have := (bd p).2.1 _ (g2.tup h5)
      rw [zip_len, h6.length]
      omega
    | _ => cases he
  | _ => cases y1 <;> cases he
end
end Q

set_option Elab.async false
set_option linter.all false
set_option maxRecDepth 100000
set_option maxHeartbeats 1000000
namespace Q
open PySem PySem.Spec PyProof.Rows L2
section
variable {K : PySem.W.Frag} {F0 Hs H : Hp} {ρ : List Addr} {st : Store} {p : Addr} {o o' : HO}
/-- a cell of one's own is put aside -/
theorem Glob.hide (g : Glob K F0 ρ Hs st H) (hp : H p = some o) (hs : Hs p = none) (hc : p ∉ ρ) (ht : ∀ xs, o ≠ .tup xs) : Glob K (upd F0 p o) ρ Hs st H where
  le := g.le
  foe := fun b u e => by
    by_cases q : b = p
    · subst q; rw [upd_same] at e; cases e; exact ⟨hp, hs, hc, ht⟩
    · rw [upd_ne q] at e; exact g.foe b u e
  nd := g.nd
  len := g.len
  cell := g.cell
theorem Glob.show' (g : Glob K (upd F0 p o) ρ Hs st H) (hf : F0 p = none) : Glob K F0 ρ Hs st H where
  le := g.le
  foe := fun b u e => g.foe b u (by rw [upd_ne (ne_of_none e hf)]; exact e)
  nd := g.nd
  len := g.len
  cell := g.cell
theorem Glob.mine (g : Glob K (upd F0 p o) ρ Hs st H) : H p = some o ∧ Hs p = none ∧ p ∉ ρ ∧ ∀ xs, o ≠ .tup xs := g.foe p o upd_same
/-- a cell that is put aside is written -/
theorem Glob.write (g : Glob K (upd F0 p o) ρ Hs st H) (ht : ∀ xs, o' ≠ .tup xs) : Glob K (upd F0 p o') ρ Hs st (upd H p o') where
  le := fun b u e => by
    have ne : b ≠ p := fun z => by subst z; rw [g.mine.2.1] at e; cases e
    rw [upd_ne ne]; exact g.le b u e
  foe := fun b u e => by
    by_cases q : b = p
    · subst q; rw [upd_same] at e; cases e; exact ⟨upd_same, g.mine.2.1, g.mine.2.2.1, ht⟩
    · rw [upd_ne q] at e ⊢; exact g.foe b u (by rw [upd_ne q]; exact e)
  nd := g.nd
  len := g.len
  cell := fun i c e => by
    obtain ⟨a, h1, h2, h3⟩ := g.cell i c e
    have ne : a ≠ p := fun z => g.mine.2.2.1 (z ▸ List.mem_of_getElem? h1)
    exact ⟨a, h1, by rw [upd_ne ne]; exact h2, h3⟩
end
/-! ### targets -/
def gNames : List Nat → TGs
  | [] => gNil
  | i :: is => gCons (gName i) (gNames is)
def setAll {α : Type} (σ : List (Option α)) (is : List Nat) (vs : List α) : List (Option α) := (is.zip vs).foldl (fun e p => e.set p.1 (some p.2)) σ
theorem gNames_of : ∀ {is : List Nat} {vs : List V} {σ : L2.St} {H : Hp} {Q : L2.St → Hp → Prop}, is.length = vs.length → Q (setAll σ is vs) H → gNames is vs σ H Q
  | [], [], σ, H, Q, _, h => ⟨rfl, h⟩
  | i :: is, v :: vs, σ, H, Q, hl, h => ⟨v, vs, rfl, gNames_of (is := is) (vs := vs) (by simpa using hl) h⟩
  | [], v :: vs, σ, H, Q, hl, h => by cases hl
  | i :: is, [], σ, H, Q, hl, h => by cases hl
def tgR (K : PySem.W.Frag) : CT → TG
  | .nm i => gName i
  | .nms is => gTup K is.length (gNames is)
section
variable {K : PySem.W.Frag} {ρ : List Addr} {Hs : Hp}
theorem EnvOk.set {env : List (Option D)} {σ : L2.St} (h : EnvOk K ρ Hs env σ) (i : Nat) {d : D} {v : V} (r : Rep K ρ Hs d v) : EnvOk K ρ Hs (env.set i (some d)) (σ.set i (some v)) where
  len := by rw [List.length_set, List.length_set]; exact h.len
  at_ := fun j e q => by
    by_cases hj : i = j
    · subst hj
      by_cases hl : i < env.length
      · rw [List.getElem?_set_self hl] at q
        cases q
        exact ⟨v, List.getElem?_set_self (by rw [← h.len]; exact hl), r⟩
      · rw [List.getElem?_eq_none (by rw [List.length_set]; omega)] at q; cases q
    · rw [List.getElem?_set_ne hj] at q ⊢
      exact h.at_ j e q
theorem EnvOk.setAll : ∀ {is : List Nat} {ds : List D} {vs : List V} {env : List (Option D)} {σ : L2.St}, EnvOk K ρ Hs env σ → RepL K ρ Hs ds vs → EnvOk K ρ Hs (Q.setAll env is ds) (Q.setAll σ is vs)
  | [], ds, vs, env, σ, h, r => h
  | i :: is, [], vs, env, σ, h, r => by rw [RepL.nil_iff] at r; subst r; exact h
  | i :: is, d :: ds, vs, env, σ, h, r => by
    obtain ⟨v, q, rfl, hx, t⟩ := RepL.cons_iff.mp r
    exact EnvOk.setAll (is := is) (h.set i hx) t
theorem wipe_in {α : Type} {own : List Nat} : True := trivial
theorem wipeD_some {i : Nat} {d : D} : ∀ {env : List (Option D)} {vs : List Nat}, (wipeD env vs)[i]? = some (some d) → env[i]? = some (some d) ∧ i ∉ vs
  | env, [], h => ⟨h, by simp⟩
  | env, v :: vs, h => by
    unfold wipeD at h
    by_cases hi : v = i
    · subst hi
      by_cases hv : v < (wipeD env vs).length
      · rw [List.getElem?_set_self hv] at h; cases h
      · rw [List.getElem?_eq_none (by simpa using hv)] at h; cases h
    · rw [List.getElem?_set_ne hi] at h
      obtain ⟨h1, h2⟩ := wipeD_some h
      exact ⟨h1, by simp only [List.mem_cons, not_or]; exact ⟨fun e => hi e.symm, h2⟩⟩
theorem wipeD_len (env : List (Option D)) : ∀ vs : List Nat, (wipeD env vs).length = env.length
  | [] => rfl
  | v :: vs => by unfold wipeD; rw [List.length_set, wipeD_len env vs]
theorem EnvOk.wipe {env : List (Option D)} {σ : L2.St} (h : EnvOk K ρ Hs env σ) (vs : List Nat) : EnvOk K ρ Hs (wipeD env vs) (L2.wipe σ vs) where
  len := by rw [wipeD_len, L2.wipe_length]; exact h.len
  at_ := fun i d e => by
    obtain ⟨h1, h2⟩ := wipeD_some e
    obtain ⟨v, h3, h4⟩ := h.at_ i d h1
    exact ⟨v, by rw [L2.wipe_out h2]; exact h3, h4⟩
theorem wipe_at {σ : L2.St} {i : Nat} : ∀ {vs : List Nat}, i ∈ vs → i < σ.length → (L2.wipe σ vs)[i]? = some none
  | v :: vs, h, hl => by
    unfold L2.wipe
    by_cases hi : v = i
    · subst hi
      exact List.getElem?_set_self (by rw [L2.wipe_length]; exact hl)
    · rw [List.getElem?_set_ne hi]
      exact wipe_at (by rcases List.mem_cons.mp h with z | z; exact absurd z.symm hi; exact z) hl
theorem wipe_eq {σ τ : L2.St} {vs : List Nat} (hl : σ.length = τ.length) (h : ∀ i, i ∉ vs → σ[i]? = τ[i]?) : L2.wipe σ vs = L2.wipe τ vs := by
  apply List.ext_getElem?
  intro i
  by_cases hi : i ∈ vs
  · by_cases hs : i < σ.length
    · rw [wipe_at hi hs, wipe_at hi (hl ▸ hs)]
    · rw [List.getElem?_eq_none (by rw [L2.wipe_length]; omega), List.getElem?_eq_none (by rw [L2.wipe_length]; omega)]
  · rw [L2.wipe_out hi, L2.wipe_out hi]; exact h i hi
theorem setAll_len {α : Type} : ∀ (is : List Nat) (vs : List α) (σ : List (Option α)), (setAll σ is vs).length = σ.length
  | [], vs, σ => rfl
  | i :: is, [], σ => rfl
  | i :: is, v :: vs, σ => by
    show (setAll (σ.set i (some v)) is vs).length = _
    rw [setAll_len is vs, List.length_set]
theorem setAll_out {α : Type} {j : Nat} : ∀ (is : List Nat) (vs : List α) (σ : List (Option α)), j ∉ is → (setAll σ is vs)[j]? = σ[j]?
  | [], vs, σ, _ => rfl
  | i :: is, [], σ, _ => rfl
  | i :: is, v :: vs, σ, h => by
    show (setAll (σ.set i (some v)) is vs)[j]? = _
    simp only [List.mem_cons, not_or] at h
    rw [setAll_out is vs _ h.2, List.getElem?_set_ne (Ne.symm h.1)]
theorem wipe_wipe {σ : L2.St} {vs : List Nat} {is : List Nat} {ws : List V} (h : ∀ i ∈ is, i ∈ vs) : L2.wipe (setAll (L2.wipe σ vs) is ws) vs = L2.wipe σ vs := by
  refine wipe_eq (by rw [setAll_len, L2.wipe_length]) fun i hi => ?_
  rw [setAll_out is ws _ (fun z => hi (h i z)), L2.wipe_out hi]
end
def ctIx : CT → List Nat
  | .nm i => [i]
  | .nms is => is
/-- a target takes a value -/
theorem tg_bind {X : Cx} {F0 Hs H : Hp} {ρ : List Addr} {st : Store} {tg : CT} {d : D} {env e1 : List (Option D)} {σ : L2.St} {v : V} {Q : L2.St → Hp → Prop} (g : Glob X.K F0 ρ Hs st H) (ev : EnvOk X.K ρ Hs env σ) (hb : bindT tg d env = some e1) (r : Rep X.K ρ Hs d v)
    (h : ∀ vs, EnvOk X.K ρ Hs e1 (setAll σ (ctIx tg) vs) → Q (setAll σ (ctIx tg) vs) H) : tgR X.K tg v σ H Q := by
  cases tg with
  | nm i =>
    cases hb
    exact h [v] (ev.set i r)
  | nms is =>
    cases d with
    | tup xs =>
      unfold bindT at hb
      dsimp only at hb
      split at hb
      · rename_i hl
        cases hb
        obtain ⟨a, vs, rfl, h1, h2⟩ := Rep.tup.mp r
        exact ⟨a, vs, rfl, SqT.of (g.tup h1), by rw [← h2.length, hl], gNames_of (by rw [hl, h2.length]) (h vs (ev.setAll h2))⟩
      · cases hb
    | _ => cases hb
end Q

set_option Elab.async false
set_option linter.all false
set_option maxRecDepth 100000
set_option maxHeartbeats 1000000
namespace Q
open PySem PySem.Spec PyProof.Rows L2
/-- blocks of a comprehension -/
abbrev Blk (X : Cx) (scope : Scope) (s : Shared) (H : Hp) (C : Addr) (cl : List (Str × Addr)) (fp : List Addr) : Cx := X.blk s H scope (compEnvC scope cl C X.env) fp
def SndB (X : Cx) (T : Tab) (scope : Scope) (ifs : List Expr) (c : CO) : Prop := match ifs, c with
  | [], .no => True
  | [e], .yes ce => ∀ s H C cl fp, SndT (Blk X scope s H C cl fp) T e ce
  | _, _ => False
section
variable {X : Cx} {T : Tab} {k : Nat}
def bE (X : Cx) (scope : Scope) (e : Expr) : TE := fun σ H Q => ∀ s H0 C cl fp, Ev (Blk X scope s H0 C cl fp) e σ H Q
def bT (X : Cx) (scope : Scope) (e : Expr) : TT := fun σ H Q => ∀ s H0 C cl fp, EvT (Blk X scope s H0 C cl fp) e σ H Q
def bIf (X : Cx) (scope : Scope) : List Expr → TT
  | [e] => bT X scope e
  | _ => tYes
/-- one turn of a comprehension, as data -/
def compF (T : Tab) (el : CE) (tg : CT) (ifs : CO) (e0 : List (Option D)) (d : D) (st : Store) : Option (Option D × Store) :=
  (bindT tg d e0).bind fun e1 => (evalB T ifs e1 st).bind fun b => if b.1 then (evalE T el e1 b.2).map fun y => (some y.1, y.2) else some (none, b.2)
/-- a list just made, its owner not told yet -/
abbrev Fresh (K : PySem.W.Frag) (F0 : Hp) (ρ : List Addr) (Hs : Hp) (st : Store) (xs : List D) (Q : VK) : Prop :=
  ∀ p vs H' ρ' Hs', Ext ρ Hs ρ' Hs' → Glob K F0 ρ' Hs' st H' → H' p = some (.lst vs) → Hs' p = none → F0 p = none → p ∉ ρ' → RepL K ρ' Hs' xs vs → Q (.ref p) H'
theorem Fresh.of {K : PySem.W.Frag} {F0 : Hp} {ρ : List Addr} {Hs : Hp} {st : Store} {xs : List D} {Q : VK} (k : Cont K F0 ρ Hs st (.lst xs) Q) : Fresh K F0 ρ Hs st xs Q := fun p vs H' ρ' Hs' e g h1 h2 h3 h4 r => by
  refine k _ _ ρ' (upd Hs' p (.lst vs)) (e.trans (Ext.upd h2)) (g.freeze h1 h2 h3 h4) ?_
  exact Rep.lst.mpr ⟨p, vs, rfl, upd_same, (Ext.upd h2).repL r⟩
theorem comp_core {elt tg iter : Expr} {ifs : List Expr} {scope : Scope} {own : List (Str × Nat)} {ce : CE} {ct : CT} {ci : CI} {co : CO} (o : Ok X k T) (hi : SndI X T tg iter ci) (ok : BlkOk X.N X.env.scope scope own)
    (hg : ∀ s H C cl fp, PG (Blk X scope s H C cl fp) tg (tgR X.K ct)) (ht : SndB X T scope ifs co) (he : ∀ s H C cl fp, SndE (Blk X scope s H C cl fp) T elt ce) (hs : ∀ x, foldedSetIterable iter X.env x = pure x)
    (hin : ∀ i ∈ ctIx ct, i ∈ own.map (·.2))
    {F0 ρ Hs st H σ env} (g : Glob X.K F0 ρ Hs st H) (ev : EnvOk X.K ρ Hs env σ) (lk : LockOk Hs σ env ci) {ds : List D} {st1 : Store} (q1 : evalI T ci env st = some (ds, st1)) {xs : List D} {st' : Store}
    (q2 : compGo (compF T ce ct co (wipeD env (own.map (·.2)))) ds st1 = some (xs, st')) {Q : VK} (kq : Fresh X.K F0 ρ Hs st' xs Q) :
    tLc (EvI X tg iter) (tgR X.K ct) (bIf X scope ifs) (bE X scope elt) (own.map (·.2)) σ H Q := by
  refine hi F0 ρ Hs st H σ env g ev lk ds st1 q1 _ fun J H1 ρ1 Hs1 e1 g1 wd _ hb => fun Da hD => ?_
  have hF := g1.nofoe hD
  refine ⟨fun i m H' => m = ds.length - i ∧ i ≤ ds.length ∧ ∃ ρ2 Hs2 acc accD stI restD, Ext ρ1 Hs1 ρ2 Hs2 ∧ Glob X.K (upd F0 Da (.lst acc)) ρ2 Hs2 stI H' ∧ RepL X.K ρ2 Hs2 accD acc ∧ acc.length ≤ i ∧
    compGo (compF T ce ct co (wipeD env (own.map (·.2)))) (ds.drop i) stI = some (restD, st') ∧ xs = accD ++ restD, ?_, ?_⟩
  · refine ⟨ds.length, rfl, Nat.zero_le _, ρ1, Hs1, [], [], st1, xs, Ext.refl _ _, ?_, .nil, Nat.le_refl _, q2, rfl⟩
    exact (g1.own hD).hide upd_same (g1.fresh hD) (g1.notin hD) (by intro _ z; cases z)
  · rintro i m H' ⟨rfl, hil, ρ2, Hs2, acc, accD, stI, restD, e2, g2, racc, hacc, hgo, hxs⟩
    by_cases hi2 : ds.length ≤ i
    · refine .inl ⟨(wd _ ρ2 Hs2 stI H' i e2 g2).2 hi2, ?_⟩
      rw [List.drop_of_length_le hi2] at hgo
      cases hgo
      rw [List.append_nil] at hxs
      subst hxs
      obtain ⟨m1, m2, m3, _⟩ := g2.mine
      exact kq Da acc H' ρ2 Hs2 (e1.trans e2) (g2.show' hF) m1 m2 hF m3 racc
    · have hlt : i < ds.length := by omega
      have hd : ds[i]? = some ds[i] := List.getElem?_eq_getElem hlt
      obtain ⟨w1, w2⟩ := (wd _ ρ2 Hs2 stI H' i e2 g2).1 _ hd
      refine .inr ⟨w1, fun H'' => ∃ ρ3 Hs3 acc accD stI restD, Ext ρ1 Hs1 ρ3 Hs3 ∧ Glob X.K (upd F0 Da (.lst acc)) ρ3 Hs3 stI H'' ∧ RepL X.K ρ3 Hs3 accD acc ∧ acc.length ≤ i + 1 ∧
        compGo (compF T ce ct co (wipeD env (own.map (·.2)))) (ds.drop (i + 1)) stI = some (restD, st') ∧ xs = accD ++ restD, fun H'' h => ⟨ds.length - (i + 1), by omega, rfl, hlt, h⟩, fun x H'' hy => ?_⟩
      obtain ⟨Hs3, e3, g3, r3⟩ := w2 x H'' hy
      rw [List.drop_eq_getElem_cons hlt] at hgo
      unfold compGo at hgo
      have ev3 : EnvOk X.K ρ2 Hs3 (wipeD env (own.map (·.2))) (L2.wipe σ (own.map (·.2))) := (ev.mono ((e1.trans e2).trans e3)).wipe _
      cases hc : compF T ce ct co (wipeD env (own.map (·.2))) ds[i] stI with
      | none => rw [hc] at hgo; cases hgo
      | some r =>
        rw [hc] at hgo
        unfold compF at hc
        obtain ⟨en, hb1, hc⟩ := ob hc
        obtain ⟨⟨b, stB⟩, hb2, hc⟩ := ob hc
        refine tg_bind g3 ev3 hb1 r3 fun vs ev4 => ⟨wipe_wipe hin, ?_⟩
        -- the test
        have test : ∀ {Qb : Bool → Hp → Prop}, (∀ H4 ρ4 Hs4, Ext ρ2 Hs3 ρ4 Hs4 → Glob X.K (upd F0 Da (.lst acc)) ρ4 Hs4 stB H4 → Qb b H4) → bIf X scope ifs (setAll (L2.wipe σ (own.map (·.2))) (ctIx ct) vs) H'' Qb := by
          intro Qb hQ
          cases ifs with
          | nil =>
            cases co with
            | no => unfold evalB at hb2; cases hb2; exact hQ _ _ _ (Ext.refl _ _) g3
            | yes _ => exact ht.elim
          | cons e1 er =>
            cases er with
            | nil =>
              cases co with
              | no => exact ht.elim
              | yes c1 =>
                unfold evalB at hb2
                obtain ⟨⟨y1, y2⟩, hy1, hy2⟩ := ob hb2
                cases y1 with
                | bl bb =>
                  cases hy2
                  intro s H0 C cl fp
                  exact ht s H0 C cl fp _ ρ2 Hs3 stI H'' _ en g3 ev4 _ _ hy1 _ hQ
                | _ => cases hy2
            | cons _ _ => cases co <;> exact ht.elim
        refine test fun H4 ρ4 Hs4 e4 g4 => ?_
        cases b with
        | false =>
          cases hc
          exact iteF ⟨ρ4, Hs4, acc, accD, stB, restD, (e2.trans e3).trans e4, g4, (e3.trans e4).repL racc, by omega, hgo, hxs⟩
        | true =>
          obtain ⟨⟨y1, y2⟩, hy1, hy2⟩ := om hc
          cases hy2
          refine iteT fun s H0 C cl fp => ?_
          refine he s H0 C cl fp _ ρ4 Hs4 stB H4 _ en g4 (ev4.mono e4) _ _ hy1 _ fun y H5 ρ5 Hs5 e5 g5 r5 => ?_
          cases hgo2 : compGo (compF T ce ct co (wipeD env (own.map (·.2)))) (ds.drop (i + 1)) y2 with
          | none => simp only [hgo2] at hgo; cases hgo
          | some rr =>
            simp only [hgo2] at hgo
            cases hgo
            refine ⟨acc, g5.mine.1, by omega, ρ5, Hs5, acc ++ [y], accD ++ [y1], y2, rr.1, ((e2.trans e3).trans e4).trans e5, g5.write (by intro _ z; cases z), ((e3.trans (e4.trans e5)).repL racc).append (.cons r5 .nil), by rw [List.length_append]; show acc.length + 1 ≤ i + 1; omega, hgo2, ?_⟩
            rw [hxs, List.append_assoc]; rfl
end
end Q

set_option Elab.async false
set_option linter.all false
set_option maxRecDepth 100000
set_option maxHeartbeats 1000000
namespace Q
open PySem PySem.Spec PyProof.Rows L2
section
variable {K : PySem.W.Frag} {F0 Hs H : Hp} {ρ : List Addr} {st : Store} {a : Addr} {u : HO} {od : Obj}
theorem lockable_notfrz (hl : lockable u) : ∀ o w, u ≠ .frz o w := fun o w z => by subst z; exact hl
theorem Glob.notcell (g : Glob K F0 ρ Hs st H) (hs : Hs a = some u) : a ∉ ρ := fun hm => by
  obtain ⟨i, hi, e⟩ := List.mem_iff_getElem.mp hm
  have hi2 : i < st.length := g.len ▸ hi
  obtain ⟨b, h1, h2, h3⟩ := g.cell i st[i] (List.getElem?_eq_getElem hi2)
  rw [List.getElem?_eq_getElem hi, e] at h1
  cases h1
  rw [hs] at h3; cases h3
theorem Glob.notfoe (g : Glob K F0 ρ Hs st H) (hs : Hs a = some u) : F0 a = none := by
  cases e : F0 a with
  | none => rfl
  | some v => rw [(g.foe a v e).2.1] at hs; cases hs
/-- what is stable at a is changed in both -/
theorem Glob.both (g : Glob K F0 ρ Hs st H) (hs : Hs a = some u) {w : HO} : Glob K F0 ρ (upd Hs a w) st (upd H a w) where
  le := fun b v e => by
    by_cases q : b = a
    · subst q; rw [upd_same] at e ⊢; exact e
    · rw [upd_ne q] at e ⊢
      exact g.le b v e
  foe := fun b v e => by
    have ne : b ≠ a := fun z => by subst z; rw [g.notfoe hs] at e; cases e
    rw [upd_ne ne, upd_ne ne]; exact g.foe b v e
  nd := g.nd
  len := g.len
  cell := fun i c e => by
    obtain ⟨b, h1, h2, h3⟩ := g.cell i c e
    have ne : b ≠ a := fun z => g.notcell hs (z ▸ List.mem_of_getElem? h1)
    exact ⟨b, h1, by rw [upd_ne ne]; exact h2, by rw [upd_ne ne]; exact h3⟩
theorem Obs.lock (hs : Hs a = some u) (hl : lockable u) : Obs Hs (upd Hs a (.frz od u)) := fun b v nf h => by
  by_cases q : b = a
  · subst q
    rcases h with h | ⟨l, o, h⟩
    · rw [hs] at h; cases h; exact .inr ⟨hl, od, upd_same⟩
    · rw [hs] at h; cases h; exact hl.elim
  · unfold At at h ⊢
    rw [upd_ne q]; exact h
theorem Obs.unlock (hs : Hs a = some (.frz od u)) (hl : lockable u) : Obs Hs (upd Hs a u) := fun b v nf h => by
  by_cases q : b = a
  · subst q
    rcases h with h | ⟨l, o, h⟩
    · rw [hs] at h; cases h; exact absurd hl (nf _ _ rfl)
    · rw [hs] at h; cases h; exact .inl upd_same
  · unfold At at h ⊢
    rw [upd_ne q]; exact h
theorem ext_unlock {ρ' : List Addr} {Hs' : Hp} (hs : Hs a = some u) (e : Ext ρ (upd Hs a (.frz od u)) ρ' Hs') : Ext ρ Hs ρ' (upd Hs' a u) := ⟨e.pre, fun b v h => by
  by_cases q : b = a
  · subst q; rw [hs] at h; cases h; exact upd_same
  · rw [upd_ne q]; exact e.sub b v (by rw [upd_ne q]; exact h)⟩
theorem EnvOk.obs {env : List (Option D)} {σ : L2.St} {Hs' : Hp} (h : EnvOk K ρ Hs env σ) (o : Obs Hs Hs') : EnvOk K ρ Hs' env σ := ⟨h.len, fun i d e => by
  obtain ⟨v, h1, h2⟩ := h.at_ i d e
  exact ⟨v, h1, Rep.obs (List.prefix_refl _) o d v h2⟩⟩
end
section
variable {X : Cx} {T : Tab} {k : Nat}
theorem Ev.mono {e : Expr} {σ : L2.St} {H : Hp} {Q Q' : VK} (h : Ev X e σ H Q) (m : ∀ v H', Q v H' → Q' v H') : Ev X e σ H Q' := fun pins s I => thn (h pins s I) fun u s' ⟨v, H', I', r, q⟩ => ⟨v, H', I', r, m v H' q⟩
theorem lockE {e : Expr} {σ : L2.St} {F0 Hs H : Hp} {ρ : List Addr} {st : Store} {a : Addr} {u : HO} {Q : VK} (g : Glob X.K F0 ρ Hs st H) (hs : Hs a = some u) (hl : lockable u)
    (h : ∀ od HL, Glob X.K F0 ρ (upd Hs a (.frz od u)) st HL → Ev X e σ HL (fun v H' => H' a = some (.frz od u) ∧ Q v (upd H' a u))) : Ev X e σ H Q := by
  refine Ev.of (pe_lock pe_ev) ⟨a, u, g.le _ _ hs, ?_, fun od => h od _ (g.both hs)⟩
  cases u with
  | dK _ => trivial
  | dT _ => trivial
  | _ => exact hl.elim
/-- who walks a dict that isn't locked -/
theorem lock_cases {Hs : Hp} {σ : L2.St} {env : List (Option D)} {ρ : List Addr} (ci : CI) (ev : EnvOk X.K ρ Hs env σ) : LockOk Hs σ env ci ∨ ∃ i d a u, ci = .ex (.var i) ∧ env[i]? = some (some d) ∧ σ[i]? = some (some (.ref a)) ∧ Hs a = some u ∧ lockable u ∧ isDict d = true := by
  cases ci with
  | ex e =>
    cases e with
    | var i =>
      cases q : env[i]? with
      | none => exact .inl fun d h => by rw [q] at h; cases h
      | some od =>
        cases od with
        | none => exact .inl fun d h => by rw [q] at h; cases h
        | some d =>
          cases hd : isDict d with
          | false => exact .inl fun d' h z => by rw [q] at h; cases h; rw [hd] at z; cases z
          | true =>
            obtain ⟨v, h1, h2⟩ := ev.at_ i d q
            cases d with
            | dK ks xs =>
              obtain ⟨a, vs, rfl, _, h3, _⟩ := Rep.dK.mp h2
              rcases h3 with h3 | ⟨_, o, h3⟩
              · exact .inr ⟨i, _, a, _, rfl, q, h1, h3, trivial, rfl⟩
              · exact .inl fun d' h z => ⟨a, o, _, h1, h3⟩
            | dT ks xs =>
              obtain ⟨a, vs, rfl, _, h3, _⟩ := Rep.dT.mp h2
              rcases h3 with h3 | ⟨_, o, h3⟩
              · exact .inr ⟨i, _, a, _, rfl, q, h1, h3, trivial, rfl⟩
              · exact .inl fun d' h z => ⟨a, o, _, h1, h3⟩
            | _ => cases hd
    | _ => exact .inl trivial
  | _ => exact .inl trivial
structure CompOk (X : Cx) (T : Tab) (elt tg iter : Expr) (ifs : List Expr) (scope : Scope) (own : List (Str × Nat)) (ce : CE) (ct : CT) (ci : CI) (co : CO) : Prop where
  hi : SndI X T tg iter ci
  ok : BlkOk X.N X.env.scope scope own
  hg : ∀ s H C cl fp, PG (Blk X scope s H C cl fp) tg (tgR X.K ct)
  ht : SndB X T scope ifs co
  he : ∀ s H C cl fp, SndE (Blk X scope s H C cl fp) T elt ce
  hs : ∀ x, foldedSetIterable iter X.env x = pure x
  hin : ∀ i ∈ ctIx ct, i ∈ own.map (·.2)
theorem CompOk.pe {elt tg iter : Expr} {ifs : List Expr} {scope : Scope} {own : List (Str × Nat)} {pos : Pos} {ce : CE} {ct : CT} {ci : CI} {co : CO} (o : Ok X k T) (c : CompOk X T elt tg iter ifs scope own ce ct ci co) :
    PE X (.ListComp elt [⟨tg, iter, ifs, 0⟩] scope pos) (tLc (EvI X tg iter) (tgR X.K ct) (bIf X scope ifs) (bE X scope elt) (own.map (·.2))) := by
  refine pe_lc o.calm o.nd pi_ev c.ok c.hg (fun s H C cl fp => ?_) (fun s H C cl fp => ⟨fun pins s' σ' H' Q I h => h s H C cl fp pins s' I⟩) c.hs
  have ht := c.ht
  cases ifs with
  | nil => exact pts_nil
  | cons e er =>
    cases er with
    | nil => exact pts_one ⟨fun pins s' σ' H' Q I h => h s H C cl fp pins s' I⟩
    | cons _ _ => cases co <;> exact ht.elim
/-- a comprehension's list, fresh -/
theorem comp_fresh {elt tg iter : Expr} {ifs : List Expr} {scope : Scope} {own : List (Str × Nat)} {pos : Pos} {ce : CE} {ct : CT} {ci : CI} {co : CO} (o : Ok X k T) (c : CompOk X T elt tg iter ifs scope own ce ct ci co)
    {F0 ρ Hs st H σ env} (g : Glob X.K F0 ρ Hs st H) (ev : EnvOk X.K ρ Hs env σ) {xs : List D} {st' : Store} (q : evalE T (.comp ce ct ci co (own.map (·.2))) env st = some (.lst xs, st')) {Q : VK} (kq : Fresh X.K F0 ρ Hs st' xs Q) :
    Ev X (.ListComp elt [⟨tg, iter, ifs, 0⟩] scope pos) σ H Q := by
  unfold evalE at q
  obtain ⟨⟨ds, st1⟩, q1, q⟩ := ob q
  obtain ⟨⟨ys, st2⟩, q2, q⟩ := om q
  cases q
  rcases lock_cases (X := X) ci ev with lk | ⟨i, d, a, u, rfl, h1, h2, h3, h4, _⟩
  · exact Ev.of (c.pe o) (comp_core o c.hi c.ok c.hg c.ht c.he c.hs c.hin g ev lk q1 q2 kq)
  · refine lockE g h3 h4 fun od HL gL => ?_
    refine Ev.of (c.pe o) (comp_core o c.hi c.ok c.hg c.ht c.he c.hs c.hin gL (ev.obs (Obs.lock h3 h4)) ?_ q1 q2 ?_)
    · intro d' hd' _
      exact ⟨a, od, u, h2, upd_same⟩
    · intro p vs H' ρ' Hs' e g' w1 w2 w3 w4 r
      have hf : Hs' a = some (.frz od u) := e.sub _ _ upd_same
      have ne : p ≠ a := fun z => by subst z; rw [hf] at w2; cases w2
      have r' := RepL.obs (List.prefix_refl ρ') (Obs.unlock hf h4) _ _ r
      exact ⟨g'.frz hf, kq p vs _ ρ' _ (ext_unlock h3 e) (g'.both hf) (by rw [upd_ne ne]; exact w1) (by rw [upd_ne ne]; exact w2) w3 w4 r'⟩
theorem snd_comp {elt tg iter : Expr} {ifs : List Expr} {scope : Scope} {own : List (Str × Nat)} {pos : Pos} {ce : CE} {ct : CT} {ci : CI} {co : CO} (o : Ok X k T) (c : CompOk X T elt tg iter ifs scope own ce ct ci co) :
    SndE X T (.ListComp elt [⟨tg, iter, ifs, 0⟩] scope pos) (.comp ce ct ci co (own.map (·.2))) := by
  intro F0 ρ Hs st H σ env g ev d st' he Q kq
  have q := he
  unfold evalE at he
  obtain ⟨x, _, he⟩ := ob he
  obtain ⟨y, _, he⟩ := om he
  cases he
  exact comp_fresh o c g ev q (Fresh.of kq)
end
end Q

set_option Elab.async false
set_option linter.all false
set_option maxRecDepth 100000
set_option maxHeartbeats 1000000
namespace Q
open PySem PySem.Spec PyProof.Rows L2
/-- a slot: nothing, data, a thing of one's own that may be changed -/
inductive Sl where
  | un | val (d : D) | own (d : D)
  deriving Inhabited
mutual
def vars : CE → List Nat
  | .var i => [i]
  | .tup es => varsL es
  | .lst es => varsL es
  | .dct a b => vars a ++ vars b
  | .bin _ a b => vars a ++ vars b
  | .neg a => vars a
  | .cmp _ a b => vars a ++ vars b
  | .chain _ _ a b c => vars a ++ (vars b ++ vars c)
  | .and a b => vars a ++ vars b
  | .or a b => vars a ++ vars b
  | .not a => vars a
  | .ife t a b => vars t ++ (vars a ++ vars b)
  | .sub a i => vars a ++ vars i
  | .slice a lo hi => vars a ++ (varsO lo ++ varsO hi)
  | .rev a => vars a
  | .call _ es => varsL es
  | .blt _ es => varsL es
  | .mcall a _ es => vars a ++ varsL es
  | .attr a _ => vars a
  | .comp el _ it ifs _ => vars el ++ (varsI it ++ varsO ifs)
  | .sortset e => vars e
  | .isi e _ => vars e
  | _ => []
def varsL : CL → List Nat
  | .nil => []
  | .cons e r => vars e ++ varsL r
def varsO : CO → List Nat
  | .no => []
  | .yes e => vars e
def varsI : CI → List Nat
  | .ex e => vars e
  | .rng1 e => vars e
  | .rng2 a b => vars a ++ vars b
  | .enum e => vars e
  | .zip a b => vars a ++ vars b
  | .items e => vars e
  | .vals e => vars e
end
def viewS (m : List Nat) (j : Nat) : Sl → Option D
  | .un => none
  | .val d => some d
  | .own d => if j ∈ m then some d else none
def view (m : List Nat) (env : List Sl) : List (Option D) := env.mapIdx (viewS m)
def backs (o : D) (ds : List D) : Bool := match o with
  | .lst _ => !D.hasLs ds
  | .inst _ _ _ _ => !D.hasLs ds
  | .dK _ _ => !D.hasMs ds
  | .dT _ _ => !D.hasMs ds
  | _ => false
def settleS (m : List Nat) (ds : List D) (j : Nat) : Sl → Sl
  | .own o => if j ∈ m ∧ backs o ds = false then .val o else .own o
  | s => s
def settle (m : List Nat) (ds : List D) (env : List Sl) : List Sl := env.mapIdx (settleS m ds)

/-! ### what is one's own -/
def OwnO (K : PySem.W.Frag) (ρ : List Addr) (Hs : Hp) : D → HO → Prop
  | .lst xs, .lst vs => RepL K ρ Hs xs vs
  | .dK ks xs, .dK kvs => ∃ vs, ks.length = xs.length ∧ kvs = ks.zip vs ∧ RepL K ρ Hs xs vs
  | .dT ks xs, .dT kvs => ∃ vs, ks.length = xs.length ∧ kvs = ks.zip vs ∧ RepL K ρ Hs xs vs
  | .inst q c ns xs, .ins C dx fs => C = He.ga K c ∧ dx = q ∧ ∃ vs, ns.length = xs.length ∧ fs = ns.zip vs ∧ RepL K ρ Hs xs vs
  | _, _ => False
structure SR (K : PySem.W.Frag) (F0 : Hp) (ρ : List Addr) (Hs : Hp) (st : Store) (H : Hp) (env : List Sl) (σ : L2.St) : Prop where
  g : Glob K F0 ρ Hs st H
  len : env.length = σ.length
  val : ∀ (i : Nat) (d : D), env[i]? = some (.val d) → ∃ v : V, σ[i]? = some (some v) ∧ Rep K ρ Hs d v
  own : ∀ (i : Nat) (d : D), env[i]? = some (.own d) → ∃ (a : Addr) (o : HO), σ[i]? = some (some (.ref a)) ∧ H a = some o ∧ OwnO K ρ Hs d o ∧ Hs a = none ∧ F0 a = none ∧ a ∉ ρ
  inj : ∀ (i j : Nat) (d e : D) (a : Addr), env[i]? = some (.own d) → env[j]? = some (.own e) → σ[i]? = some (some (.ref a)) → σ[j]? = some (some (.ref a)) → i = j
section
variable {K : PySem.W.Frag} {F0 Hs H : Hp} {ρ : List Addr} {st : Store}
theorem OwnO.ext {ρ' : List Addr} {Hs' : Hp} {d : D} {o : HO} (h : OwnO K ρ Hs d o) (e : Ext ρ Hs ρ' Hs') : OwnO K ρ' Hs' d o := by
  cases d with
  | lst xs => cases o with
    | lst vs => exact e.repL h
    | _ => exact h.elim
  | dK ks xs => cases o with
    | dK kvs => obtain ⟨vs, h1, h2, h3⟩ := h; exact ⟨vs, h1, h2, e.repL h3⟩
    | _ => exact h.elim
  | dT ks xs => cases o with
    | dT kvs => obtain ⟨vs, h1, h2, h3⟩ := h; exact ⟨vs, h1, h2, e.repL h3⟩
    | _ => exact h.elim
  | inst q c ns xs => cases o with
    | ins C dx fs => obtain ⟨h0, h00, vs, h1, h2, h3⟩ := h; exact ⟨h0, h00, vs, h1, h2, e.repL h3⟩
    | _ => exact h.elim
  | _ => exact h.elim
theorem OwnO.rep {a : Addr} {d : D} {o : HO} (h : OwnO K ρ Hs d o) (ha : Hs a = some o) : Rep K ρ Hs d (.ref a) := by
  cases d with
  | lst xs => cases o with
    | lst vs => exact Rep.lst.mpr ⟨a, vs, rfl, ha, h⟩
    | _ => exact h.elim
  | dK ks xs => cases o with
    | dK kvs => obtain ⟨vs, h1, rfl, h3⟩ := h; exact Rep.dK.mpr ⟨a, vs, rfl, h1, .inl ha, h3⟩
    | _ => exact h.elim
  | dT ks xs => cases o with
    | dT kvs => obtain ⟨vs, h1, rfl, h3⟩ := h; exact Rep.dT.mpr ⟨a, vs, rfl, h1, .inl ha, h3⟩
    | _ => exact h.elim
  | inst q c ns xs => cases o with
    | ins C dx fs => obtain ⟨rfl, rfl, vs, h1, rfl, h3⟩ := h; exact Rep.inst.mpr ⟨a, vs, rfl, h1, ha, h3⟩
    | _ => exact h.elim
  | _ => exact h.elim
theorem OwnO.notup {d : D} {o : HO} (h : OwnO K ρ Hs d o) : ∀ xs, o ≠ .tup xs := fun xs z => by
  subst z
  cases d <;> exact h
/-- what kind of thing stands there -/
def kindOf' : HO → Nat
  | .lst _ => 1
  | .dK _ => 2
  | .dT _ => 2
  | .ins _ _ _ => 1
  | _ => 0
mutual
/-- data whose parts are all of other kinds is read without the things that are left out -/
theorem Rep.less {A B : Hp} (d : D) (v : V) (h : ∀ b u, A b = some u → B b = some u ∨ (kindOf' u = 1 ∧ d.hasL = false) ∨ (kindOf' u = 2 ∧ d.hasM = false)) (r : Rep K ρ A d v) : Rep K ρ B d v := by
  cases d with
  | non => unfold Rep at r ⊢; exact r
  | bl b => unfold Rep at r ⊢; exact r
  | int i => unfold Rep at r ⊢; exact r
  | str s => unfold Rep at r ⊢; exact r
  | tup xs =>
    obtain ⟨a, vs, e, e1, k⟩ := Rep.tup.mp r
    refine Rep.tup.mpr ⟨a, vs, e, ?_, RepL.less xs vs (fun b u q => by have := h b u q; simp only [D.hasL, D.hasM] at this; exact this) k⟩
    rcases h _ _ e1 with z | ⟨z, _⟩ | ⟨z, _⟩
    · exact z
    · cases z
    · cases z
  | lst xs =>
    obtain ⟨a, vs, e, e1, k⟩ := Rep.lst.mp r
    refine Rep.lst.mpr ⟨a, vs, e, ?_, RepL.less xs vs (fun b u q => by
      have := h b u q
      simp only [D.hasL, D.hasM] at this
      rcases this with z | ⟨_, z⟩ | z
      · exact .inl z
      · cases z
      · exact .inr (.inr z)) k⟩
    rcases h _ _ e1 with z | ⟨_, z⟩ | ⟨z, _⟩
    · exact z
    · simp [D.hasL] at z
    · cases z
  | dK ks xs =>
    obtain ⟨a, vs, e, e0, e1, k⟩ := Rep.dK.mp r
    refine Rep.dK.mpr ⟨a, vs, e, e0, ?_, RepL.less xs vs (fun b u q => by
      have := h b u q
      simp only [D.hasL, D.hasM] at this
      rcases this with z | z | ⟨_, z⟩
      · exact .inl z
      · exact .inr (.inl z)
      · cases z) k⟩
    rcases e1 with e1 | ⟨l, o, e1⟩
    · rcases h _ _ e1 with z | ⟨z, _⟩ | ⟨_, z⟩
      · exact .inl z
      · cases z
      · simp [D.hasM] at z
    · rcases h _ _ e1 with z | ⟨z, _⟩ | ⟨z, _⟩
      · exact .inr ⟨l, o, z⟩
      · cases z
      · cases z
  | dT ks xs =>
    obtain ⟨a, vs, e, e0, e1, k⟩ := Rep.dT.mp r
    refine Rep.dT.mpr ⟨a, vs, e, e0, ?_, RepL.less xs vs (fun b u q => by
      have := h b u q
      simp only [D.hasL, D.hasM] at this
      rcases this with z | z | ⟨_, z⟩
      · exact .inl z
      · exact .inr (.inl z)
      · cases z) k⟩
    rcases e1 with e1 | ⟨l, o, e1⟩
    · rcases h _ _ e1 with z | ⟨z, _⟩ | ⟨_, z⟩
      · exact .inl z
      · cases z
      · simp [D.hasM] at z
    · rcases h _ _ e1 with z | ⟨z, _⟩ | ⟨z, _⟩
      · exact .inr ⟨l, o, z⟩
      · cases z
      · cases z
  | obj c ns xs =>
    obtain ⟨a, dx, vs, e, e0, e1, k⟩ := Rep.obj.mp r
    refine Rep.obj.mpr ⟨a, dx, vs, e, e0, ?_, RepL.less xs vs (fun b u q => by
      have := h b u q
      simp only [D.hasL, D.hasM] at this
      rcases this with z | ⟨_, z⟩ | z
      · exact .inl z
      · cases z
      · exact .inr (.inr z)) k⟩
    rcases h _ _ e1 with z | ⟨_, z⟩ | ⟨z, _⟩
    · exact z
    · simp [D.hasL] at z
    · cases z
  | inst q c ns xs =>
    obtain ⟨a, vs, e, e0, e1, k⟩ := Rep.inst.mp r
    refine Rep.inst.mpr ⟨a, vs, e, e0, ?_, RepL.less xs vs (fun b u q => by
      have := h b u q
      simp only [D.hasL, D.hasM] at this
      rcases this with z | ⟨_, z⟩ | z
      · exact .inl z
      · cases z
      · exact .inr (.inr z)) k⟩
    rcases h _ _ e1 with z | ⟨_, z⟩ | ⟨z, _⟩
    · exact z
    · simp [D.hasL] at z
    · cases z
  | cell i => exact Rep.cell.mpr (Rep.cell.mp r)
  | scr ns =>
    obtain ⟨a, e, e1⟩ := Rep.scr.mp r
    refine Rep.scr.mpr ⟨a, e, ?_⟩
    rcases e1 with ⟨o, e1⟩ | e1
    · rcases h _ _ e1 with z | ⟨z, _⟩ | ⟨z, _⟩
      · exact .inl ⟨o, z⟩
      · cases z
      · cases z
    · exact .inr e1
theorem RepL.less {A B : Hp} (ds : List D) (vs : List V) (h : ∀ b u, A b = some u → B b = some u ∨ (kindOf' u = 1 ∧ D.hasLs ds = false) ∨ (kindOf' u = 2 ∧ D.hasMs ds = false)) (r : RepL K ρ A ds vs) : RepL K ρ B ds vs := by
  cases ds with
  | nil => rw [RepL.nil_iff] at r ⊢; exact r
  | cons d ds =>
    obtain ⟨v, q, e, hx, k⟩ := RepL.cons_iff.mp r
    refine RepL.cons_iff.mpr ⟨v, q, e, Rep.less d v (fun b u z => ?_) hx, RepL.less ds q (fun b u z => ?_) k⟩
    · rcases h b u z with w | ⟨w1, w2⟩ | ⟨w1, w2⟩
      · exact .inl w
      · simp only [D.hasLs, Bool.or_eq_false_iff] at w2; exact .inr (.inl ⟨w1, w2.1⟩)
      · simp only [D.hasMs, Bool.or_eq_false_iff] at w2; exact .inr (.inr ⟨w1, w2.1⟩)
    · rcases h b u z with w | ⟨w1, w2⟩ | ⟨w1, w2⟩
      · exact .inl w
      · simp only [D.hasLs, Bool.or_eq_false_iff] at w2; exact .inr (.inl ⟨w1, w2.2⟩)
      · simp only [D.hasMs, Bool.or_eq_false_iff] at w2; exact .inr (.inr ⟨w1, w2.2⟩)
end
theorem backs_kind {o : D} {u : HO} {ds : List D} (h : OwnO K ρ Hs o u) (b : backs o ds = true) : (kindOf' u = 1 ∧ D.hasLs ds = false) ∨ (kindOf' u = 2 ∧ D.hasMs ds = false) := by
  cases o with
  | lst xs => cases u with
    | lst vs => exact .inl ⟨rfl, by simpa [backs] using b⟩
    | _ => exact h.elim
  | dK ks xs => cases u with
    | dK kvs => exact .inr ⟨rfl, by simpa [backs] using b⟩
    | _ => exact h.elim
  | dT ks xs => cases u with
    | dT kvs => exact .inr ⟨rfl, by simpa [backs] using b⟩
    | _ => exact h.elim
  | inst q c ns xs => cases u with
    | ins C dx fs => exact .inl ⟨rfl, by simpa [backs] using b⟩
    | _ => exact h.elim
  | _ => exact h.elim
open Classical in
/-- own things are lent to an expression (those in m), the others are put aside; behind it they come back -/
theorem SR.lend {env : List Sl} {σ : L2.St} (r : SR K F0 ρ Hs st H env σ) (m : List Nat) : ∃ F1 Hs1, Glob K F1 ρ Hs1 st H ∧ EnvOk K ρ Hs1 (view m env) σ ∧
    (∀ ρ' Hs1' st' H' (ds : List D), Ext ρ Hs1 ρ' Hs1' → Glob K F1 ρ' Hs1' st' H' → ∃ Hs', Ext ρ Hs ρ' Hs' ∧ SR K F0 ρ' Hs' st' H' (settle m ds env) σ ∧ (∀ b u, Hs1' b = some u → Hs' b = some u ∨ (kindOf' u = 1 ∧ D.hasLs ds = false) ∨ (kindOf' u = 2 ∧ D.hasMs ds = false)) ∧ (∀ b, Hs1' b = none → Hs' b = none) ∧ (∀ b, F1 b = none → F0 b = none) ∧
      (∀ (i : Nat) (o : D) (a : Addr), env[i]? = some (Sl.own o) → σ[i]? = some (some (V.ref a)) → F1 a ≠ none ∨ Hs1' a ≠ none)) ∧ Ext ρ Hs ρ Hs1 := by
  let P : Addr → Prop := fun a => ∃ (i : Nat) (o : D), env[i]? = some (Sl.own o) ∧ i ∈ m ∧ σ[i]? = some (some (V.ref a))
  let N : Addr → Prop := fun a => ∃ (i : Nat) (o : D), env[i]? = some (Sl.own o) ∧ i ∉ m ∧ σ[i]? = some (some (V.ref a))
  have PN : ∀ a, P a → N a → False := fun a ⟨i, o, h1, h2, h3⟩ ⟨j, o', h4, h5, h6⟩ => h5 (r.inj i j o o' a h1 h4 h3 h6 ▸ h2)
  have ownAt : ∀ (i : Nat) (o : D) (a : Addr), env[i]? = some (Sl.own o) → σ[i]? = some (some (V.ref a)) → ∃ u, H a = some u ∧ OwnO K ρ Hs o u ∧ Hs a = none ∧ F0 a = none ∧ a ∉ ρ := fun i o a h1 h2 => by
    obtain ⟨a', u, w1, w2⟩ := r.own i o h1
    rw [h2] at w1
    cases w1
    exact ⟨u, w2⟩
  have Pout : ∀ a, P a → Hs a = none ∧ F0 a = none ∧ a ∉ ρ := fun a ⟨i, o, h1, h2, h3⟩ => (ownAt i o a h1 h3).elim fun u w => w.2.2
  have Nout : ∀ a, N a → Hs a = none ∧ F0 a = none ∧ a ∉ ρ := fun a ⟨i, o, h1, h2, h3⟩ => (ownAt i o a h1 h3).elim fun u w => w.2.2
  let Hs1 : Hp := fun b => if P b then H b else Hs b
  let F1 : Hp := fun b => if N b then H b else F0 b
  have hsP : ∀ b, P b → Hs1 b = H b := fun b h => if_pos h
  have hsN : ∀ b, ¬ P b → Hs1 b = Hs b := fun b h => if_neg h
  have f1P : ∀ b, N b → F1 b = H b := fun b h => if_pos h
  have f1N : ∀ b, ¬ N b → F1 b = F0 b := fun b h => if_neg h
  have sub1 : Sub Hs Hs1 := fun b u e => by
    have np : ¬ P b := fun z => by rw [(Pout b z).1] at e; cases e
    rw [hsN b np]; exact e
  have ext1 : Ext ρ Hs ρ Hs1 := ⟨List.prefix_refl _, sub1⟩
  refine ⟨F1, Hs1, ⟨fun b u e => ?_, fun b u e => ?_, r.g.nd, r.g.len, fun i c e => ?_⟩, ⟨?_, fun i d e => ?_⟩, fun ρ' Hs1' st' H' ds e g' => ?_, ext1⟩
  · by_cases p : P b
    · rw [hsP b p] at e; exact e
    · rw [hsN b p] at e; exact r.g.le b u e
  · by_cases n : N b
    · rw [f1P b n] at e
      obtain ⟨i, o, h1, h2, h3⟩ := n
      obtain ⟨u', w1, w2, w3, w4, w5⟩ := ownAt i o b h1 h3
      rw [e] at w1
      cases w1
      exact ⟨e, by rw [hsN b fun z => PN b z ⟨i, o, h1, h2, h3⟩]; exact w3, w5, w2.notup⟩
    · rw [f1N b n] at e
      obtain ⟨w1, w2, w3⟩ := r.g.foe b u e
      exact ⟨w1, by rw [hsN b fun z => by rw [(Pout b z).2.1] at e; cases e]; exact w2, w3⟩
  · obtain ⟨a, w1, w2, w3⟩ := r.g.cell i c e
    exact ⟨a, w1, w2, by rw [hsN a fun z => (Pout a z).2.2 (List.mem_of_getElem? w1)]; exact w3⟩
  · unfold view; rw [List.length_mapIdx]; exact r.len
  · unfold view at e
    rw [List.getElem?_mapIdx] at e
    obtain ⟨s, h1, h2⟩ := om e
    cases s with
    | un => cases h2
    | val d' =>
      cases h2
      obtain ⟨v, w1, w2⟩ := r.val i d h1
      exact ⟨v, w1, ext1.rep w2⟩
    | own d' =>
      have h2 : (if i ∈ m then some d' else none) = some d := h2
      split at h2
      · rename_i hm
        cases h2
        obtain ⟨a, u, w1, w2, w3, w4⟩ := r.own i d h1
        refine ⟨_, w1, (w3.ext ext1).rep ?_⟩
        rw [hsP a ⟨i, d, h1, hm, w1⟩]; exact w2
      · cases h2
  · let J : Addr → Prop := fun a => ∃ (i : Nat) (o : D), env[i]? = some (Sl.own o) ∧ i ∈ m ∧ backs o ds = true ∧ σ[i]? = some (some (V.ref a))
    have JP : ∀ a, J a → P a := fun a ⟨i, o, h1, h2, _, h3⟩ => ⟨i, o, h1, h2, h3⟩
    let Hs' : Hp := fun b => if J b then none else Hs1' b
    have hJ : ∀ b, J b → Hs' b = none := fun b h => if_pos h
    have hN : ∀ b, ¬ J b → Hs' b = Hs1' b := fun b h => if_neg h
    have sub2 : ∀ b u, Hs' b = some u → Hs1' b = some u := fun b u q => by
      by_cases j : J b
      · rw [hJ b j] at q; cases q
      · rw [hN b j] at q; exact q
    have ext2 : Ext ρ Hs ρ' Hs' := ⟨e.pre, fun b u q => by
      have nj : ¬ J b := fun z => by rw [(Pout b (JP b z)).1] at q; cases q
      rw [hN b nj]; exact e.sub b u (sub1 b u q)⟩
    have nonN : ∀ b, Hs1' b = none → Hs' b = none := fun b q => by
      by_cases j : J b
      · exact hJ b j
      · rw [hN b j]; exact q
    have gl : Glob K F0 ρ' Hs' st' H' := ⟨fun b u q => g'.le b u (sub2 b u q), fun b u q => by
        have nn : ¬ N b := fun z => by rw [(Nout b z).2.1] at q; cases q
        obtain ⟨w1, w2, w3⟩ := g'.foe b u (by rw [f1N b nn]; exact q)
        exact ⟨w1, nonN b w2, w3⟩, g'.nd, g'.len, fun i c q => by
        obtain ⟨a, w1, w2, w3⟩ := g'.cell i c q
        exact ⟨a, w1, w2, nonN a w3⟩⟩
    have lookS : ∀ (i : Nat) (s : Sl), (settle m ds env)[i]? = some s → ∃ s0, env[i]? = some s0 ∧ settleS m ds i s0 = s := fun i s q => by
      unfold settle at q
      rw [List.getElem?_mapIdx] at q
      exact om q
    have ownS : ∀ (i : Nat) (o : D), (settle m ds env)[i]? = some (Sl.own o) → env[i]? = some (.own o) ∧ (i ∈ m → backs o ds = true) := fun i o q => by
      obtain ⟨s0, h1, h2⟩ := lookS i _ q
      cases s0 with
      | un => cases h2
      | val _ => cases h2
      | own o' =>
        have h2 : (if i ∈ m ∧ backs o' ds = false then Sl.val o' else Sl.own o') = _ := h2
        split at h2
        · cases h2
        · rename_i hc
          cases h2
          refine ⟨h1, fun hm => ?_⟩
          cases hb : backs o ds with
          | true => rfl
          | false => exact absurd ⟨hm, hb⟩ hc
    refine ⟨Hs', ext2, ⟨gl, by unfold settle; rw [List.length_mapIdx]; exact r.len, fun i d q => ?_, fun i o q => ?_, fun i j d e' a q1 q2 => r.inj i j d e' a (ownS i d q1).1 (ownS j e' q2).1⟩, fun b u q => ?_, nonN, fun b q => ?_, fun i o a h1 h2 => ?_⟩
    · obtain ⟨s0, h1, h2⟩ := lookS i _ q
      cases s0 with
      | un => cases h2
      | val d' =>
        cases h2
        obtain ⟨v, w1, w2⟩ := r.val i d h1
        exact ⟨v, w1, ext2.rep w2⟩
      | own o' =>
        have h2 : (if i ∈ m ∧ backs o' ds = false then Sl.val o' else Sl.own o') = _ := h2
        split at h2
        · rename_i hc
          cases h2
          obtain ⟨a, u, w1, w2, w3, w4⟩ := r.own i d h1
          refine ⟨_, w1, (w3.ext ext2).rep ?_⟩
          have nj : ¬ J a := fun ⟨j, o2, z1, z2, z3, z4⟩ => by
            have eij := r.inj i j d o2 a h1 z1 w1 z4
            subst eij
            rw [h1] at z1
            cases z1
            rw [hc.2] at z3
            cases z3
          rw [hN a nj]
          exact e.sub a u (by rw [hsP a ⟨i, d, h1, hc.1, w1⟩]; exact w2)
        · cases h2
    · obtain ⟨h1, hbk⟩ := ownS i o q
      obtain ⟨a, u, w1, w2, w3, w4, w5, w6⟩ := r.own i o h1
      by_cases hm : i ∈ m
      · have pa : P a := ⟨i, o, h1, hm, w1⟩
        have z1 : Hs1' a = some u := e.sub a u (by rw [hsP a pa]; exact w2)
        refine ⟨a, u, w1, g'.le a u z1, w3.ext ext2, hJ a ⟨i, o, h1, hm, hbk hm, w1⟩, w5, g'.notcell z1⟩
      · have na : N a := ⟨i, o, h1, hm, w1⟩
        obtain ⟨z1, z2, z3, z4⟩ := g'.foe a u (by rw [f1P a na]; exact w2)
        exact ⟨a, u, w1, z1, w3.ext ext2, nonN a z2, w5, z3⟩
    · by_cases j : J b
      · obtain ⟨i, o, h1, h2, h3, h4⟩ := id j
        obtain ⟨u', w1, w2, _⟩ := ownAt i o b h1 h4
        have z1 : Hs1' b = some u' := e.sub b u' (by rw [hsP b (JP b j)]; exact w1)
        rw [q] at z1
        cases z1
        exact .inr (backs_kind w2 h3)
      · exact .inl (by rw [hN b j]; exact q)
    · by_cases n : N b
      · exact (Nout b n).2.1
      · rw [f1N b n] at q; exact q
    · obtain ⟨u, w1, w2, _⟩ := ownAt i o a h1 h2
      by_cases hm : i ∈ m
      · right
        have z1 : Hs1' a = some u := e.sub a u (by rw [hsP a ⟨i, o, h1, hm, h2⟩]; exact w1)
        rw [z1]; exact fun z => by cases z
      · left
        rw [f1P a ⟨i, o, h1, hm, h2⟩, w1]; exact fun z => by cases z
end
end Q

set_option Elab.async false
set_option linter.all false
set_option maxRecDepth 100000
set_option maxHeartbeats 1000000
namespace Q
open PySem PySem.Spec PyProof.Rows L2
/-! ### new things -/
abbrev FreshO (K : PySem.W.Frag) (F0 : Hp) (ρ : List Addr) (Hs : Hp) (st : Store) (d : D) (Q : VK) : Prop :=
  ∀ p u H' ρ' Hs', Ext ρ Hs ρ' Hs' → Glob K F0 ρ' Hs' st H' → H' p = some u → Hs' p = none → F0 p = none → p ∉ ρ' → OwnO K ρ' Hs' d u → Q (.ref p) H'
theorem FreshO.of {K : PySem.W.Frag} {F0 : Hp} {ρ : List Addr} {Hs : Hp} {st : Store} {d : D} {Q : VK} (k : Cont K F0 ρ Hs st d Q) : FreshO K F0 ρ Hs st d Q := fun p u H' ρ' Hs' e g h1 h2 h3 h4 r => by
  refine k _ _ ρ' (upd Hs' p u) (e.trans (Ext.upd h2)) (g.freeze h1 h2 h3 h4) ?_
  exact (r.ext (Ext.upd h2)).rep upd_same
def FreshE (X : Cx) (T : Tab) (e : Expr) (c : CE) : Prop := ∀ F0 ρ Hs st H σ env, Glob X.K F0 ρ Hs st H → EnvOk X.K ρ Hs env σ → ∀ d st', evalE T c env st = some (d, st') → ∀ Q, FreshO X.K F0 ρ Hs st' d Q → Ev X e σ H Q
section
variable {X : Cx} {T : Tab} {k : Nat}
theorem FreshE.snd {e : Expr} {c : CE} (h : FreshE X T e c) : SndE X T e c := fun F0 ρ Hs st H σ env g ev d st' he Q kq => h F0 ρ Hs st H σ env g ev d st' he Q (FreshO.of kq)
theorem fresh_new {F0 Hs H : Hp} {ρ : List Addr} {st : Store} {d : D} {Q : VK} {u : HO} (k : FreshO X.K F0 ρ Hs st d Q) (g : Glob X.K F0 ρ Hs st H) (r : OwnO X.K ρ Hs d u) : ∀ p, H p = none → Q (.ref p) (upd H p u) := fun p hp =>
  k p u _ ρ Hs (Ext.refl _ _) (g.own hp) upd_same (g.fresh hp) (g.nofoe hp) (g.notin hp) r
theorem fresh_lst {es : List Expr} {cl : CL} {pos : Pos} (h : SndL X T es cl) (hl : cl.len ≤ 1000) : FreshE X T (.List es pos) (.lst cl) := by
  intro F0 ρ Hs st H σ env g ev d st' he Q k
  unfold evalE at he
  obtain ⟨⟨x1, x2⟩, q, he⟩ := om he
  cases he
  refine Ev.of (pe_lst pa_ev) ?_
  refine h F0 ρ Hs st H σ env g ev _ _ q _ fun vs H1 ρ1 Hs1 e1 g1 r1 => ⟨?_, fun p hp => fresh_new (d := .lst x1) (u := .lst vs) (fun p u H' ρ' Hs' e => k p u H' ρ' Hs' (e1.trans e)) g1 r1 p hp⟩
  rw [← r1.length, evalL_len q]
  exact Nat.le_trans hl (by decide)
theorem fresh_dnew {t : Bool} {pos : Pos} : FreshE X T (.Dict [] [] pos) (.dnew t) := by
  intro F0 ρ Hs st H σ env g ev d st' he Q k
  unfold evalE at he
  cases he
  cases t with
  | true => exact Ev.of pe_dnewT fun p hp => fresh_new (u := .dT []) k g ⟨[], rfl, rfl, .nil⟩ p hp
  | false => exact Ev.of pe_dnewK fun p hp => fresh_new (u := .dK []) k g ⟨[], rfl, rfl, .nil⟩ p hp
theorem fresh_dct {a b : Expr} {ca cb : CE} {pos : Pos} (h1 : SndE X T a ca) (h2 : SndE X T b cb) : FreshE X T (.Dict [some a] [b] pos) (.dct ca cb) := by
  intro F0 ρ Hs st H σ env g ev d st' he Q k
  unfold evalE at he
  obtain ⟨⟨x1, x2⟩, q, he⟩ := ob he
  obtain ⟨⟨y1, y2⟩, q2, he⟩ := ob he
  obtain ⟨kk, h3, he⟩ := om he
  cases he
  refine Ev.of (pe_disp (pps_cons pe_ev pe_ev pps_nil) rfl rfl (by intro z; cases z) (by show 1 ≤ 15; decide)) fun p hp => ?_
  have hF := g.nofoe hp
  have g0 : Glob X.K (upd F0 p (.dK [])) ρ Hs st (upd H p (.dK [])) := (g.own hp).hide upd_same (g.fresh hp) (g.notin hp) (by intro _ z; cases z)
  refine h1 _ ρ Hs st _ σ env g0 ev _ _ q _ fun v H1 ρ1 Hs1 e1 g1 r1 => ?_
  refine h2 _ ρ1 Hs1 _ H1 σ env g1 (ev.mono e1) _ _ q2 _ fun u H2 ρ2 Hs2 e2 g2 r2 => ?_
  cases keyOf_rep h3 (e2.rep r1)
  refine ⟨g2.mine.1, [(kk, u)], rfl, (by show 1 ≤ 15; decide), ?_⟩
  have g3 := g2.write (o' := .dK (mergeK [] [(kk, u)])) (by intro _ z; cases z)
  exact k p _ _ ρ2 Hs2 (e1.trans e2) (g3.show' hF) upd_same g3.mine.2.1 hF g3.mine.2.2.1 ⟨[u], rfl, rfl, .cons r2 .nil⟩
theorem fresh_comp {elt tg iter : Expr} {ifs : List Expr} {scope : Scope} {own : List (Str × Nat)} {pos : Pos} {ce : CE} {ct : CT} {ci : CI} {co : CO} (o : Ok X k T) (c : CompOk X T elt tg iter ifs scope own ce ct ci co) :
    FreshE X T (.ListComp elt [⟨tg, iter, ifs, 0⟩] scope pos) (.comp ce ct ci co (own.map (·.2))) := by
  intro F0 ρ Hs st H σ env g ev d st' he Q kq
  have q := he
  unfold evalE at he
  obtain ⟨x, _, he⟩ := ob he
  obtain ⟨y, _, he⟩ := om he
  cases he
  exact comp_fresh o c g ev q fun p vs H' ρ' Hs' e g h1 h2 h3 h4 r => kq p (.lst vs) H' ρ' Hs' e g h1 h2 h3 h4 r
theorem fresh_list {e : Expr} {ce : CE} {p pos : Pos} (o : Ok X k T) (h : SndE X T e ce) (hg : Gl X "list") (hs : notStar e = true) : FreshE X T (.Call (.Name "list" p) [e] [] pos) (.blt "list" (.cons ce .nil)) := by
  intro F0 ρ Hs st H σ env g ev d st' he Q k
  unfold evalE at he
  obtain ⟨⟨x1, x2⟩, q, he⟩ := ob he
  obtain ⟨d0, h4, he⟩ := om he
  cases he
  unfold evalL at q
  obtain ⟨⟨y1, y2⟩, q1, q⟩ := ob q
  obtain ⟨w, q2, q⟩ := om q
  unfold evalL at q2
  cases q2
  cases q
  refine Ev.of (pe_callTy (T := "list") callAny hg (o.blt _ (by decide +kernel)) (by decide +kernel) pa_ev (by decide +kernel) (by decide +kernel) (star_cons hs) rfl) ?_
  refine EvA.one hs ?_
  refine h F0 ρ Hs st H σ env g ev _ _ q1 _ fun v H1 ρ1 Hs1 e1 g1 r1 => ?_
  cases y1 with
  | lst xs =>
    have h5 : some (D.lst xs) = some d := h4
    cases h5
    obtain ⟨a, vs, rfl, w1, w2⟩ := Rep.lst.mp r1
    exact ⟨_, call_list_of, a, vs, rfl, .inl (SqL.of (g1.lst w1)), fun l hl => fresh_new (d := .lst xs) (u := .lst vs) (fun p u H' ρ' Hs' e => k p u H' ρ' Hs' (e1.trans e)) g1 w2 l hl⟩
  | tup xs =>
    have h5 : some (D.lst xs) = some d := h4
    cases h5
    obtain ⟨a, vs, rfl, w1, w2⟩ := Rep.tup.mp r1
    exact ⟨_, call_list_of, a, vs, rfl, .inr (SqT.of (g1.tup w1)), fun l hl => fresh_new (d := .lst xs) (u := .lst vs) (fun p u H' ρ' Hs' e => k p u H' ρ' Hs' (e1.trans e)) g1 w2 l hl⟩
  | dK ks xs =>
    have h5 : some (D.lst (ks.map keyD)) = some d := h4
    cases h5
    obtain ⟨p, ws, rfl, hl, w1, w2⟩ := Rep.dK.mp r1
    refine ⟨_, call_listD o.calm, p, _, rfl, (g1.at w1).rd, fun l hq => ?_⟩
    have e1' : (ks.zip ws).map (fun kv => kV kv.1) = ks.map kV := by
      rw [show (fun kv : Key × V => kV kv.1) = kV ∘ Prod.fst from rfl, ← List.map_map, List.map_fst_zip (by rw [hl, w2.length]; exact Nat.le_refl _)]
    rw [e1']
    exact fresh_new (d := .lst (ks.map keyD)) (u := .lst (ks.map kV)) (fun p u H' ρ' Hs' e => k p u H' ρ' Hs' (e1.trans e)) g1 (rep_keys7 ks) l hq
  | dT ks xs =>
    have h5 : some (D.lst (ks.map tupD)) = some d := h4
    cases h5
    obtain ⟨p, ws, rfl, hl, w1, w2⟩ := Rep.dT.mp r1
    refine ⟨_, call_list_dT o.calm, p, _, rfl, (g1.at w1).rd, fun l bs hq hk => ?_⟩
    obtain ⟨Hs', e2, g2, r2⟩ := tups_in (by rw [hl, w2.length]) g1 hk
    exact fresh_new (d := .lst (ks.map tupD)) (u := .lst (bs.map V.ref)) (fun p u H' ρ' Hs' e => k p u H' ρ' Hs' ((e1.trans e2).trans e)) g2 r2 l hq
  | _ => have h5 : (none : Option D) = some d := h4; cases h5
/-! ### several values, some of them one's own -/
def ownable : D → Bool
  | .lst _ => true
  | .dK _ _ => true
  | .dT _ _ => true
  | _ => false
def evalP (T : Tab) : List Bool → CL → List (Option D) → Store → Option (List Sl × Store)
  | [], .nil, _, st => some ([], st)
  | b :: bs, .cons e r, env, st => (evalE T e env st).bind fun x => (evalP T bs r env x.2).bind fun y => if b then (if ownable x.1 then some (.own x.1 :: y.1, y.2) else none) else some (.val x.1 :: y.1, y.2)
  | _, _, _, _ => none
def inside : D → List D
  | .lst xs => xs
  | .dK _ xs => xs
  | .dT _ xs => xs
  | .inst _ _ _ xs => xs
  | d => [d]
def slData : List Sl → List D
  | [] => []
  | .val d :: r => d :: slData r
  | .own d :: r => inside d ++ slData r
  | .un :: r => slData r
def PSl (K : PySem.W.Frag) (ρ : List Addr) (Hs : Hp) : Hp → Hp → List Sl → List V → Prop
  | F, F2, [], vs => vs = [] ∧ F2 = F
  | F, F2, .val d :: ss, vs => ∃ v r, vs = v :: r ∧ Rep K ρ Hs d v ∧ PSl K ρ Hs F F2 ss r
  | F, F2, .own d :: ss, vs => ∃ a u r, vs = .ref a :: r ∧ F a = none ∧ OwnO K ρ Hs d u ∧ PSl K ρ Hs (upd F a u) F2 ss r
  | _, _, .un :: _, _ => False
theorem PSl.sub {K : PySem.W.Frag} {ρ : List Addr} {Hs : Hp} : ∀ {ss : List Sl} {vs : List V} {F F2 : Hp}, PSl K ρ Hs F F2 ss vs → Sub F F2
  | [], vs, F, F2, h => by obtain ⟨_, rfl⟩ := h; exact Sub.refl _
  | .val d :: ss, vs, F, F2, h => by obtain ⟨v, r, _, _, t⟩ := h; exact PSl.sub t
  | .own d :: ss, vs, F, F2, h => by obtain ⟨a, u, r, _, h2, _, t⟩ := h; exact (Sub.upd h2).trans (PSl.sub t)
  | .un :: _, vs, F, F2, h => h.elim
theorem PSl.ext {K : PySem.W.Frag} {ρ ρ' : List Addr} {Hs Hs' : Hp} (e : Ext ρ Hs ρ' Hs') : ∀ {ss : List Sl} {vs : List V} {F F2 : Hp}, PSl K ρ Hs F F2 ss vs → PSl K ρ' Hs' F F2 ss vs
  | [], vs, F, F2, h => h
  | .val d :: ss, vs, F, F2, h => by obtain ⟨v, r, h1, h2, t⟩ := h; exact ⟨v, r, h1, e.rep h2, PSl.ext e t⟩
  | .own d :: ss, vs, F, F2, h => by obtain ⟨a, u, r, h1, h2, h3, t⟩ := h; exact ⟨a, u, r, h1, h2, h3.ext e, PSl.ext e t⟩
  | .un :: _, vs, F, F2, h => h.elim
theorem PSl.len {K : PySem.W.Frag} {ρ : List Addr} {Hs : Hp} : ∀ {ss : List Sl} {vs : List V} {F F2 : Hp}, PSl K ρ Hs F F2 ss vs → ss.length = vs.length
  | [], vs, F, F2, h => by obtain ⟨rfl, _⟩ := h; rfl
  | .val d :: ss, vs, F, F2, h => by obtain ⟨v, r, rfl, _, t⟩ := h; rw [List.length_cons, List.length_cons, PSl.len t]
  | .own d :: ss, vs, F, F2, h => by obtain ⟨a, u, r, rfl, _, _, t⟩ := h; rw [List.length_cons, List.length_cons, PSl.len t]
  | .un :: _, vs, F, F2, h => h.elim
theorem hasLs_append : ∀ (a b : List D), D.hasLs (a ++ b) = (D.hasLs a || D.hasLs b)
  | [], b => rfl
  | x :: a, b => by simp only [List.cons_append, D.hasLs, hasLs_append a b, Bool.or_assoc]
theorem hasMs_append : ∀ (a b : List D), D.hasMs (a ++ b) = (D.hasMs a || D.hasMs b)
  | [], b => rfl
  | x :: a, b => by simp only [List.cons_append, D.hasMs, hasMs_append a b, Bool.or_assoc]
theorem OwnO.less {K : PySem.W.Frag} {ρ : List Addr} {A B : Hp} {d : D} {u : HO} (h : ∀ b w, A b = some w → B b = some w ∨ (kindOf' w = 1 ∧ D.hasLs (inside d) = false) ∨ (kindOf' w = 2 ∧ D.hasMs (inside d) = false)) (r : OwnO K ρ A d u) : OwnO K ρ B d u := by
  cases d with
  | lst xs => cases u with
    | lst vs => exact RepL.less xs vs h r
    | _ => exact r.elim
  | dK ks xs => cases u with
    | dK kvs => obtain ⟨vs, h1, h2, h3⟩ := r; exact ⟨vs, h1, h2, RepL.less xs vs h h3⟩
    | _ => exact r.elim
  | dT ks xs => cases u with
    | dT kvs => obtain ⟨vs, h1, h2, h3⟩ := r; exact ⟨vs, h1, h2, RepL.less xs vs h h3⟩
    | _ => exact r.elim
  | inst q c ns xs => cases u with
    | ins C dx fs => obtain ⟨h0, h00, vs, h1, h2, h3⟩ := r; exact ⟨h0, h00, vs, h1, h2, RepL.less xs vs h h3⟩
    | _ => exact r.elim
  | _ => exact r.elim
theorem PSl.less {K : PySem.W.Frag} {ρ : List Addr} {A B : Hp} : ∀ {ss : List Sl} {vs : List V} {F F2 : Hp}, (∀ b w, A b = some w → B b = some w ∨ (kindOf' w = 1 ∧ D.hasLs (slData ss) = false) ∨ (kindOf' w = 2 ∧ D.hasMs (slData ss) = false)) → PSl K ρ A F F2 ss vs → PSl K ρ B F F2 ss vs
  | [], vs, F, F2, _, h => h
  | .val d :: ss, vs, F, F2, hb, h => by
    obtain ⟨v, r, h1, h2, t⟩ := h
    simp only [slData, D.hasLs, D.hasMs, Bool.or_eq_false_iff] at hb
    exact ⟨v, r, h1, Rep.less d v (fun b w q => by rcases hb b w q with z | ⟨z1, z2, _⟩ | ⟨z1, z2, _⟩; exact .inl z; exact .inr (.inl ⟨z1, z2⟩); exact .inr (.inr ⟨z1, z2⟩)) h2,
      PSl.less (fun b w q => by rcases hb b w q with z | ⟨z1, _, z2⟩ | ⟨z1, _, z2⟩; exact .inl z; exact .inr (.inl ⟨z1, z2⟩); exact .inr (.inr ⟨z1, z2⟩)) t⟩
  | .own d :: ss, vs, F, F2, hb, h => by
    obtain ⟨a, u, r, h1, h2, h3, t⟩ := h
    simp only [slData, hasLs_append, hasMs_append, Bool.or_eq_false_iff] at hb
    exact ⟨a, u, r, h1, h2, h3.less (fun b w q => by rcases hb b w q with z | ⟨z1, z2, _⟩ | ⟨z1, z2, _⟩; exact .inl z; exact .inr (.inl ⟨z1, z2⟩); exact .inr (.inr ⟨z1, z2⟩)),
      PSl.less (fun b w q => by rcases hb b w q with z | ⟨z1, _, z2⟩ | ⟨z1, _, z2⟩; exact .inl z; exact .inr (.inl ⟨z1, z2⟩); exact .inr (.inr ⟨z1, z2⟩)) t⟩
  | .un :: _, vs, F, F2, _, h => h.elim
def SndP (X : Cx) (T : Tab) (bs : List Bool) (es : List Expr) (c : CL) : Prop := ∀ F1 ρ Hs st H σ env, Glob X.K F1 ρ Hs st H → EnvOk X.K ρ Hs env σ → ∀ ss st', evalP T bs c env st = some (ss, st') →
  ∀ Q : List V → Hp → Prop, (∀ vs H' ρ' Hs' F2, Ext ρ Hs ρ' Hs' → Glob X.K F2 ρ' Hs' st' H' → PSl X.K ρ' Hs' F1 F2 ss vs → Q vs H') → EvA X es σ H Q
theorem sndP_nil : SndP X T [] [] .nil := by
  intro F1 ρ Hs st H σ env g ev ss st' he Q k
  cases he
  exact EvA.of pa_nil (k [] H ρ Hs F1 (Ext.refl _ _) g ⟨rfl, rfl⟩)
theorem sndP_val {bs : List Bool} {e : Expr} {es : List Expr} {c : CE} {cl : CL} (h1 : SndE X T e c) (h2 : SndP X T bs es cl) (hs : notStar e = true) : SndP X T (false :: bs) (e :: es) (.cons c cl) := by
  intro F1 ρ Hs st H σ env g ev ss st' he Q k
  unfold evalP at he
  obtain ⟨⟨x1, x2⟩, q, he⟩ := ob he
  obtain ⟨⟨y1, y2⟩, q2, he⟩ := ob he
  cases he
  refine EvA.of (pa_cons pe_ev pa_ev (star_cons hs)) ?_
  refine h1 F1 ρ Hs st H σ env g ev _ _ q _ fun v H1 ρ1 Hs1 e1 g1 r1 => ?_
  refine h2 F1 ρ1 Hs1 _ H1 σ env g1 (ev.mono e1) _ _ q2 _ fun vs H2 ρ2 Hs2 F2 e2 g2 r2 => ?_
  exact k _ _ _ _ F2 (e1.trans e2) g2 ⟨v, vs, rfl, e2.rep r1, r2⟩
theorem sndP_own {bs : List Bool} {e : Expr} {es : List Expr} {c : CE} {cl : CL} (h1 : FreshE X T e c) (h2 : SndP X T bs es cl) (hs : notStar e = true) : SndP X T (true :: bs) (e :: es) (.cons c cl) := by
  intro F1 ρ Hs st H σ env g ev ss st' he Q k
  unfold evalP at he
  obtain ⟨⟨x1, x2⟩, q, he⟩ := ob he
  obtain ⟨⟨y1, y2⟩, q2, he⟩ := ob he
  dsimp only at he
  rw [if_pos rfl] at he
  split at he
  · cases he
    refine EvA.of (pa_cons pe_ev pa_ev (star_cons hs)) ?_
    refine h1 F1 ρ Hs st H σ env g ev _ _ q _ fun p u H1 ρ1 Hs1 e1 g1 w1 w2 w3 w4 r1 => ?_
    refine h2 (upd F1 p u) ρ1 Hs1 _ H1 σ env (g1.hide w1 w2 w4 r1.notup) (ev.mono e1) _ _ q2 _ fun vs H2 ρ2 Hs2 F2 e2 g2 r2 => ?_
    exact k _ _ _ _ F2 (e1.trans e2) g2 ⟨p, u, vs, rfl, w3, r1.ext e2, r2⟩
  · cases he
/-- Glob with fewer things put aside -/
theorem Glob.fewer {K : PySem.W.Frag} {F F2 Hs H : Hp} {ρ : List Addr} {st : Store} (g : Glob K F2 ρ Hs st H) (s : Sub F F2) : Glob K F ρ Hs st H := ⟨g.le, fun b u e => g.foe b u (s b u e), g.nd, g.len, g.cell⟩
def setS (env : List Sl) : List Nat → List Sl → List Sl
  | i :: is, s :: ss => setS (env.set i s) is ss
  | _, _ => env
theorem set_get {α : Type} {l : List α} {i j : Nat} {x y : α} (h : (l.set i x)[j]? = some y) : (i = j ∧ y = x ∧ i < l.length) ∨ (i ≠ j ∧ l[j]? = some y) := by
  by_cases e : i = j
  · subst e
    by_cases hl : i < l.length
    · rw [List.getElem?_set_self hl] at h; cases h; exact .inl ⟨rfl, rfl, hl⟩
    · rw [List.getElem?_eq_none (by rw [List.length_set]; omega)] at h; cases h
  · rw [List.getElem?_set_ne e] at h; exact .inr ⟨e, h⟩
theorem SR.setVal {K : PySem.W.Frag} {F0 Hs H : Hp} {ρ : List Addr} {st : Store} {env : List Sl} {σ : L2.St} (r : SR K F0 ρ Hs st H env σ) (i : Nat) {d : D} {v : V} (hv : Rep K ρ Hs d v) : SR K F0 ρ Hs st H (env.set i (.val d)) (σ.set i (some v)) where
  g := r.g
  len := by rw [List.length_set, List.length_set]; exact r.len
  val := fun j e q => by
    rcases set_get q with ⟨rfl, h, hl⟩ | ⟨hne, h⟩
    · cases h; exact ⟨v, List.getElem?_set_self (by rw [← r.len]; exact hl), hv⟩
    · rw [List.getElem?_set_ne hne]; exact r.val j e h
  own := fun j e q => by
    rcases set_get q with ⟨rfl, h, hl⟩ | ⟨hne, h⟩
    · cases h
    · rw [List.getElem?_set_ne hne]; exact r.own j e h
  inj := fun a b d1 d2 p q1 q2 z1 z2 => by
    rcases set_get q1 with ⟨rfl, h, hl⟩ | ⟨hne, h⟩
    · cases h
    · rcases set_get q2 with ⟨rfl, h', hl'⟩ | ⟨hne', h'⟩
      · cases h'
      · rw [List.getElem?_set_ne hne] at z1
        rw [List.getElem?_set_ne hne'] at z2
        exact r.inj a b d1 d2 p h h' z1 z2
theorem SR.setOwn {K : PySem.W.Frag} {F0 Hs H : Hp} {ρ : List Addr} {st : Store} {env : List Sl} {σ : L2.St} (r : SR K F0 ρ Hs st H env σ) (i : Nat) {d : D} {a : Addr} {u : HO} (h1 : H a = some u) (h2 : OwnO K ρ Hs d u) (h3 : Hs a = none) (h4 : F0 a = none) (h5 : a ∉ ρ)
    (h6 : ∀ (j : Nat) (e : D), j ≠ i → env[j]? = some (Sl.own e) → σ[j]? ≠ some (some (V.ref a))) : SR K F0 ρ Hs st H (env.set i (.own d)) (σ.set i (some (.ref a))) where
  g := r.g
  len := by rw [List.length_set, List.length_set]; exact r.len
  val := fun j e q => by
    rcases set_get q with ⟨rfl, h, hl⟩ | ⟨hne, h⟩
    · cases h
    · rw [List.getElem?_set_ne hne]; exact r.val j e h
  own := fun j e q => by
    rcases set_get q with ⟨rfl, h, hl⟩ | ⟨hne, h⟩
    · cases h; exact ⟨a, u, List.getElem?_set_self (by rw [← r.len]; exact hl), h1, h2, h3, h4, h5⟩
    · rw [List.getElem?_set_ne hne]; exact r.own j e h
  inj := fun x y d1 d2 p q1 q2 z1 z2 => by
    rcases set_get q1 with ⟨rfl, h, hl⟩ | ⟨hne, h⟩
    · rcases set_get q2 with ⟨rfl, h', hl'⟩ | ⟨hne', h'⟩
      · rfl
      · rw [List.getElem?_set_self (by rw [← r.len]; exact hl)] at z1
        cases z1
        rw [List.getElem?_set_ne hne'] at z2
        exact absurd z2 (h6 y d2 (Ne.symm hne') h')
    · rcases set_get q2 with ⟨rfl, h', hl'⟩ | ⟨hne', h'⟩
      · rw [List.getElem?_set_self (by rw [← r.len]; exact hl')] at z2
        cases z2
        rw [List.getElem?_set_ne hne] at z1
        exact absurd z1 (h6 x d1 (Ne.symm hne) h)
      · rw [List.getElem?_set_ne hne] at z1
        rw [List.getElem?_set_ne hne'] at z2
        exact r.inj x y d1 d2 p h h' z1 z2
/-- several slots are filled; F tells which addresses are taken -/
theorem SR.setP {K : PySem.W.Frag} {F0 Hs H Hx F2 : Hp} {ρ : List Addr} {st : Store} : ∀ {is : List Nat} {ss : List Sl} {vs : List V} {env : List Sl} {σ : L2.St} {F : Hp}, SR K F0 ρ Hs st H env σ →
    (∀ (i : Nat) (o : D) (a : Addr), env[i]? = some (Sl.own o) → σ[i]? = some (some (V.ref a)) → F a ≠ none ∨ Hx a ≠ none) →
    (∀ a u, F2 a = some u → F a = none → H a = some u ∧ Hs a = none ∧ F0 a = none ∧ a ∉ ρ ∧ Hx a = none) → PSl K ρ Hs F F2 ss vs → is.length = ss.length → SR K F0 ρ Hs st H (setS env is ss) (setAll σ is vs)
  | [], [], vs, env, σ, F, r, _, _, p, _ => by obtain ⟨rfl, _⟩ := p; exact r
  | i :: is, .val d :: ss, vs, env, σ, F, r, tk, nw, p, hl => by
    obtain ⟨v, vr, rfl, h1, t⟩ := p
    refine SR.setP (is := is) (r.setVal i h1) (fun j o a q1 q2 => ?_) nw t (by simpa using hl)
    rcases set_get q1 with ⟨rfl, h, _⟩ | ⟨hne, h⟩
    · cases h
    · rw [List.getElem?_set_ne hne] at q2; exact tk j o a h q2
  | i :: is, .own d :: ss, vs, env, σ, F, r, tk, nw, p, hl => by
    obtain ⟨a, u, vr, rfl, h1, h2, t⟩ := p
    have hF2 : F2 a = some u := PSl.sub t a u upd_same
    obtain ⟨w1, w2, w3, w4, w5⟩ := nw a u hF2 h1
    refine SR.setP (is := is) (F := upd F a u) (r.setOwn i w1 h2 w2 w3 w4 fun j e _ q z => ?_) (fun j o b q1 q2 => ?_) (fun b w q z => nw b w q ?_) t (by simpa using hl)
    · rcases tk j e a q z with y | y
      · exact y h1
      · exact y w5
    · by_cases hb : b = a
      · subst hb; left; rw [upd_same]; exact fun z => by cases z
      · rcases set_get q1 with ⟨rfl, h, hl2⟩ | ⟨hne, h⟩
        · rw [List.getElem?_set_self (by rw [← r.len]; exact hl2)] at q2; cases q2; exact absurd rfl hb
        · rw [List.getElem?_set_ne hne] at q2
          rw [upd_ne hb]; exact tk j o b h q2
    · by_cases hb : b = a
      · subst hb; rw [upd_same] at z; cases z
      · rw [upd_ne hb] at z; exact z
  | i :: is, .un :: ss, vs, env, σ, F, r, tk, nw, p, hl => p.elim
  | [], s :: ss, vs, env, σ, F, r, _, _, p, hl => by cases hl
  | i :: is, [], vs, env, σ, F, r, _, _, p, hl => by cases hl
end
end Q

set_option Elab.async false
set_option linter.all false
set_option maxRecDepth 100000
set_option maxHeartbeats 1000000
namespace Q
open PySem PySem.Spec PyProof.Rows L2
inductive Fl where
  | nx | ct | rt (d : D)
abbrev RS := Option (Fl × List Sl × Store)
def loopGo (f : D → List Sl → Store → RS) : List D → List Sl → Store → RS
  | [], env, st => some (.nx, env, st)
  | d :: ds, env, st => match f d env st with
    | some (.rt v, e, s) => some (.rt v, e, s)
    | some (.nx, e, s) => loopGo f ds e s
    | some (.ct, e, s) => loopGo f ds e s
    | none => none
def whileGo (t : List Sl → Store → Option (Bool × List Sl × Store)) (f : List Sl → Store → RS) : Nat → List Sl → Store → RS
  | 0, _, _ => none
  | n + 1, env, st => match t env st with
    | some (false, e, s) => some (.nx, e, s)
    | some (true, e, s) => (match f e s with
      | some (.rt v, e, s) => some (.rt v, e, s)
      | some (.nx, e, s) => whileGo t f n e s
      | some (.ct, e, s) => whileGo t f n e s
      | none => none)
    | none => none
def bindS (tg : CT) (d : D) (env : List Sl) : Option (List Sl) := match tg, d with
  | .nm i, d => some (env.set i (.val d))
  | .nms is, .tup xs => if is.length = xs.length then some (setS env is (xs.map .val)) else none
  | _, _ => none
/-- all of them stay lent -/
def both : List D := [.lst [], .dK [] []]
def freezeI (it : CI) (env : List Sl) : List Sl := settle (varsI it) (if isRng it then [] else both) env
/-- a test -/
def testS (T : Tab) (t : CE) (env : List Sl) (st : Store) : Option (Bool × List Sl × Store) := (evalE T t (view (vars t) env) st).bind fun x => match x.1 with
  | .bl b => some (b, settle (vars t) [] env, x.2)
  | _ => none
/-- x[k] = d -/
def putAt (i : Nat) (kd d : D) (env : List Sl) (st : Store) : Option (List Sl × Store) := match env[i]? with
  | some (.own (.lst xs)) => (match kd with
    | .int j => (ixN xs.length j).map fun q => (env.set i (.own (.lst (xs.set q d))), st)
    | _ => none)
  | some (.own o) => (putD o kd d).bind fun o' => if (inside o).length < sizeLine then some (env.set i (.own o'), st) else none
  | some (.val (.cell c)) => (match kd, d, st[c]? with
    | .int j, .int z, some ns => (ixN ns.length j).map fun q => (env, st.set c (ns.set q z))
    | _, _, _ => none)
  | _ => none
def putStep (T : Tab) (i : Nat) (k : CE) (d : D) (env : List Sl) (st : Store) : Option (List Sl × Store) :=
  (evalE T k (view (vars k) env) st).bind fun y => putAt i y.1 d (settle (vars k) [y.1] env) y.2
def putSteps (T : Tab) : List (Nat × Option CE) → List D → List Sl → Store → Option (List Sl × Store)
  | [], [], env, st => some (env, st)
  | (i, some k) :: ks, d :: ds, env, st => (putStep T i k d env st).bind fun x => putSteps T ks ds x.1 x.2
  | (i, none) :: ks, d :: ds, env, st => putSteps T ks ds (env.set i (.val d)) st
  | _, _, _, _ => none
def execS (T : Tab) (n : Nat) : CS → List Sl → Store → RS
  | .skip, env, st => some (.nx, env, st)
  | .seq a b, env, st => (execS T n a env st).bind fun r => match r with
    | (.nx, e, s) => execS T n b e s
    | r => some r
  | .exp e, env, st => (evalE T e (view (vars e) env) st).map fun x => (.nx, settle (vars e) [] env, x.2)
  | .set i e, env, st => (evalE T e (view (vars e) env) st).map fun x => (.nx, (settle (vars e) [x.1] env).set i (.val x.1), x.2)
  | .setOwn i e, env, st => (evalE T e (view (vars e) env) st).bind fun x => if ownable x.1 then some (.nx, (settle (vars e) (inside x.1) env).set i (.own x.1), x.2) else none
  | .unpack is e, env, st => (evalE T e (view (vars e) env) st).bind fun x => match x.1 with
    | .tup xs => if is.length = xs.length then some (.nx, setS (settle (vars e) xs env) is (xs.map .val), x.2) else none
    | .lst xs => if is.length = xs.length then some (.nx, setS (settle (vars e) xs env) is (xs.map .val), x.2) else none
    | _ => none
  | .par is fl es, env, st => (evalP T fl es (view (varsL es) env) st).bind fun x => if is.length = x.1.length then some (.nx, setS (settle (varsL es) (slData x.1) env) is x.1, x.2) else none
  | .put i k e, env, st => (evalE T e (view (vars e) env) st).bind fun x => (putStep T i k x.1 (settle (vars e) [x.1] env) x.2).map fun y => (.nx, y.1, y.2)
  | .puts ks es, env, st => (evalL T es (view (varsL es) env) st).bind fun x => (putSteps T ks x.1 (settle (varsL es) x.1 env) x.2).map fun y => (.nx, y.1, y.2)
  | .app i e, env, st => (evalE T e (view (vars e) env) st).bind fun x => match (settle (vars e) [x.1] env)[i]? with
    | some (.own (.lst xs)) => if xs.length < sizeLine then some (.nx, (settle (vars e) [x.1] env).set i (.own (.lst (xs ++ [x.1]))), x.2) else none
    | _ => none
  | .ext i e, env, st => (evalE T e (view (vars e) env) st).bind fun x => match x.1 with
    | .lst ys => (match (settle (vars e) ys env)[i]? with
      | some (.own (.lst xs)) => if xs.length + ys.length ≤ sizeLine then some (.nx, (settle (vars e) ys env).set i (.own (.lst (xs ++ ys))), x.2) else none
      | _ => none)
    | _ => none
  | .popTo is i, env, st => match env[i]? with
    | some (.own (.lst xs)) => (match xs[xs.length - 1]? with
      | some (.tup ys) => if is.length = ys.length then some (.nx, setS (env.set i (.own (.lst xs.dropLast))) is (ys.map .val), st) else none
      | _ => none)
    | _ => none
  | .setA i m e, env, st => (evalE T e (view (vars e) env) st).bind fun x => match (settle (vars e) [x.1] env)[i]? with
    | some (.own (.inst q c ns xs)) => if m ∈ T.fld c ∧ m ∉ ns ∧ ns.length < 1000 then some (.nx, (settle (vars e) [x.1] env).set i (.own (.inst q c (ns ++ [m]) (xs ++ [x.1]))), x.2) else none
    | _ => none
  | .ret e, env, st => (evalE T e (view (vars e) env) st).map fun x => (.rt x.1, env, x.2)
  | .retCell es, env, st => (evalL T es (view (varsL es) env) st).bind fun x => (intsOf x.1).map fun ns => (.rt (.cell x.2.length), env, x.2 ++ [ns])
  | .retN, env, st => some (.rt .non, env, st)
  | .iff t a b, env, st => (testS T t env st).bind fun x => if x.1 then execS T n a x.2.1 x.2.2 else execS T n b x.2.1 x.2.2
  | .loop tg it body, env, st => (evalI T it (view (varsI it) (freezeI it env)) st).bind fun x => loopGo (fun d e s => (bindS tg d e).bind fun e1 => execS T n body e1 s) x.1 (freezeI it env) x.2
  | .whl t body, env, st => whileGo (testS T t) (fun e s => execS T n body e s) n env st
  | .cont, env, st => some (.ct, env, st)
  | .stuck, _, _ => none
/-! ### soundness -/
def ContS (K : PySem.W.Frag) (F0 : Hp) (ρ : List Addr) (Hs : Hp) (r : Fl × List Sl × Store) (Dn : Ends) : Prop := match r with
  | (.nx, env, st) => ∀ σ' H' ρ' Hs', Ext ρ Hs ρ' Hs' → SR K F0 ρ' Hs' st H' env σ' → Dn.nx σ' H'
  | (.ct, env, st) => ∀ σ' H' ρ' Hs', Ext ρ Hs ρ' Hs' → SR K F0 ρ' Hs' st H' env σ' → Dn.ct σ' H'
  | (.rt d, _, st) => ∀ v H' ρ' Hs', Ext ρ Hs ρ' Hs' → Glob K F0 ρ' Hs' st H' → Rep K ρ' Hs' d v → Dn.rt v H'
def SndS (X : Cx) (T : Tab) (s : Stmt) (c : CS) : Prop := ∀ n F0 ρ Hs st H σ env, SR X.K F0 ρ Hs st H env σ → ∀ r, execS T n c env st = some r → ∀ Dn, ContS X.K F0 ρ Hs r Dn → EvS X s Dn σ H
def SndSs (X : Cx) (T : Tab) (s : List Stmt) (c : CS) : Prop := ∀ n F0 ρ Hs st H σ env, SR X.K F0 ρ Hs st H env σ → ∀ r, execS T n c env st = some r → ∀ Dn, ContS X.K F0 ρ Hs r Dn → EvSs X s Dn σ H
theorem ContS.mono {K : PySem.W.Frag} {F0 : Hp} {ρ ρ1 : List Addr} {Hs Hs1 : Hp} {r : Fl × List Sl × Store} {Dn : Ends} (h : ContS K F0 ρ Hs r Dn) (e : Ext ρ Hs ρ1 Hs1) : ContS K F0 ρ1 Hs1 r Dn := by
  obtain ⟨f, env, st⟩ := r
  cases f with
  | nx => exact fun σ' H' ρ' Hs' e2 => h σ' H' ρ' Hs' (e.trans e2)
  | ct => exact fun σ' H' ρ' Hs' e2 => h σ' H' ρ' Hs' (e.trans e2)
  | rt d => exact fun v H' ρ' Hs' e2 => h v H' ρ' Hs' (e.trans e2)
section
variable {X : Cx} {T : Tab} {k : Nat}
theorem sndSs_nil : SndSs X T [] .skip := by
  intro n F0 ρ Hs st H σ env r res he Dn kc
  cases he
  exact EvSs.of pss_nil (kc σ H ρ Hs (Ext.refl _ _) r)
theorem sndSs_one {s : Stmt} {c : CS} (h : SndS X T s c) : SndSs X T [s] c := by
  intro n F0 ρ Hs st H σ env r res he Dn kc
  refine EvSs.of (pss_cons ps_ev pss_nil) ?_
  exact h n F0 ρ Hs st H σ env r res he { Dn with nx := tNext Dn } (by
    obtain ⟨f, env', st'⟩ := res
    cases f <;> exact kc)
theorem sndSs_cons {s : Stmt} {ss : List Stmt} {a b : CS} (h1 : SndS X T s a) (h2 : SndSs X T ss b) : SndSs X T (s :: ss) (.seq a b) := by
  intro n F0 ρ Hs st H σ env r res he Dn kc
  unfold execS at he
  obtain ⟨⟨f, env1, st1⟩, q, he⟩ := ob he
  refine EvSs.of (pss_cons ps_ev pss_ev) ?_
  refine h1 n F0 ρ Hs st H σ env r _ q _ ?_
  cases f with
  | nx => exact fun σ' H' ρ' Hs' e r' => h2 n F0 ρ' Hs' _ H' σ' env1 r' _ he Dn (kc.mono e)
  | ct => cases he; exact kc
  | rt d => cases he; exact kc
theorem snd_pass {pos : Pos} : SndS X T (.Pass pos) .skip := by
  intro n F0 ρ Hs st H σ env r res he Dn kc
  cases he
  exact EvS.of ps_pass (kc σ H ρ Hs (Ext.refl _ _) r)
theorem snd_cont {pos : Pos} : SndS X T (.Continue pos) .cont := by
  intro n F0 ρ Hs st H σ env r res he Dn kc
  cases he
  exact EvS.of ps_continue (kc σ H ρ Hs (Ext.refl _ _) r)
theorem snd_stuck {s : Stmt} : SndS X T s .stuck := by
  intro n F0 ρ Hs st H σ env r res he Dn kc
  cases he
/-- an expression within a statement -/
theorem SR.eval {e : Expr} {c : CE} (h : SndE X T e c) {F0 Hs H : Hp} {ρ : List Addr} {st : Store} {env : List Sl} {σ : L2.St} (r : SR X.K F0 ρ Hs st H env σ) {d : D} {st' : Store} (q : evalE T c (view (vars c) env) st = some (d, st')) (ds : List D) {Q : VK}
    (k : ∀ v H' ρ' Hs', Ext ρ Hs ρ' Hs' → SR X.K F0 ρ' Hs' st' H' (settle (vars c) ds env) σ → (ds = [d] → Rep X.K ρ' Hs' d v) → (∀ xs, d = .tup xs → ds = xs → ∃ a vs, v = .ref a ∧ H' a = some (.tup vs) ∧ RepL X.K ρ' Hs' xs vs) → (∀ xs, d = .lst xs → ds = xs → ∃ a vs, v = .ref a ∧ H' a = some (.lst vs) ∧ RepL X.K ρ' Hs' xs vs) → Q v H') : Ev X e σ H Q := by
  obtain ⟨F1, Hs1, g1, ev1, bk, _⟩ := r.lend (vars c)
  refine h F1 ρ Hs1 st H σ _ g1 ev1 d st' q _ fun v H' ρ' Hs1' e1 g' rv => ?_
  obtain ⟨Hs', e2, r2, ls, n1, n2, n3⟩ := bk ρ' Hs1' st' H' ds e1 g'
  refine k v H' ρ' Hs' e2 r2 (fun z => ?_) (fun xs z1 z2 => ?_) (fun xs z1 z2 => ?_)
  · subst z
    exact Rep.less d v (fun b u w => by
      rcases ls b u w with y | ⟨y1, y2⟩ | ⟨y1, y2⟩
      · exact .inl y
      · exact .inr (.inl ⟨y1, by simpa [D.hasLs] using y2⟩)
      · exact .inr (.inr ⟨y1, by simpa [D.hasMs] using y2⟩)) rv
  · subst z1 z2
    obtain ⟨a, vs, rfl, w1, w2⟩ := Rep.tup.mp rv
    exact ⟨a, vs, rfl, g'.tup w1, RepL.less _ vs ls w2⟩
  · subst z1 z2
    obtain ⟨a, vs, rfl, w1, w2⟩ := Rep.lst.mp rv
    exact ⟨a, vs, rfl, g'.lst w1, RepL.less _ vs ls w2⟩
theorem snd_exp {e : Expr} {c : CE} {pos : Pos} (h : SndE X T e c) (hs : swapsWith e none pos.line X.env = pure false) : SndS X T (.Expr e pos) (.exp c) := by
  intro n F0 ρ Hs st H σ env r res he Dn kc
  unfold execS at he
  obtain ⟨⟨x1, x2⟩, q, he⟩ := om he
  cases he
  refine EvS.of (ps_expr pe_ev hs) ?_
  exact r.eval h q [] fun v H' ρ' Hs' e1 r1 _ _ _ => kc σ H' ρ' Hs' e1 r1
theorem snd_ret {e : Expr} {c : CE} {pos : Pos} (h : SndE X T e c) : SndS X T (.Return (some e) pos) (.ret c) := by
  intro n F0 ρ Hs st H σ env r res he Dn kc
  unfold execS at he
  obtain ⟨⟨x1, x2⟩, q, he⟩ := om he
  cases he
  refine EvS.of (ps_ret pe_ev) ?_
  obtain ⟨F1, Hs1, g1, ev1, bk, _⟩ := r.lend (vars c)
  refine h F1 ρ Hs1 st H σ _ g1 ev1 _ _ q _ fun v H' ρ' Hs1' e1 g' rv => ?_
  obtain ⟨Hs', e2, r2, ls, n1, n2, n3⟩ := bk ρ' Hs1' _ H' both e1 g'
  refine kc v H' ρ' Hs' e2 r2.g (Rep.less _ v (fun b u w => ?_) rv)
  rcases ls b u w with y | ⟨_, y2⟩ | ⟨_, y2⟩
  · exact .inl y
  · cases y2
  · cases y2
theorem snd_retN {pos : Pos} : SndS X T (.Return none pos) .retN := by
  intro n F0 ρ Hs st H σ env r res he Dn kc
  cases he
  exact EvS.of ps_retN (kc .non H ρ Hs (Ext.refl _ _) r.g (Rep.non.mpr rfl))
end
end Q

set_option Elab.async false
set_option linter.all false
set_option maxRecDepth 100000
set_option maxHeartbeats 1000000
namespace Q
open PySem PySem.Spec PyProof.Rows L2
section
variable {X : Cx} {T : Tab} {k : Nat}
/-- the statement puts the expression's value into the slot -/
def Puts (X : Cx) (s : Stmt) (e : Expr) (i : Nat) : Prop := ∀ σ H Dn, Ev X e σ H (fun v H1 => Dn.nx (σ.set i (some v)) H1) → EvS X s Dn σ H
theorem puts_name {x : Str} {i : Nat} {px pos : Pos} {e : Expr} (o : Ok X k T) (hi : X.N[i]? = some x) (hx : Loc X.env.scope x) (hf : X.fn x = true ∨ X.env.scope.names.lookup x = some .local) (hs : swapsWith e (some (.Name x px)) pos.line X.env = pure false) : Puts X (.Assign [.Name x px] e pos) e i := by
  intro σ H Dn h
  exact EvS.of (ps_asg pe_ev (pg_name o.nd hi hx hf) hs (by unfold swappedStores; cases e <;> rfl) rfl) h
/-- x = [..] on one line -/
theorem puts_comp {x : Str} {i : Nat} {px pos spos : Pos} {elt tg iter : Expr} {ifs : List Expr} {scope : Scope} {own : List (Str × Nat)} {ce : CE} {ct : CT} {ci : CI} {co : CO} (o : Ok X k T) (hi : X.N[i]? = some x) (hx : X.env.scope.names.lookup x = some .local)
    (hsw : swapsWith (.ListComp elt [⟨tg, iter, ifs, 0⟩] scope pos) (some (.Name x px)) spos.line X.env = pure true) (c : CompOk X T elt tg iter ifs scope own ce ct ci co) :
    ∀ σ H Dn, tLc (EvI X tg iter) (tgR X.K ct) (bIf X scope ifs) (bE X scope elt) (own.map (·.2)) σ H (fun v H1 => Dn.nx (σ.set i (some v)) H1) → EvS X (.Assign [.Name x px] (.ListComp elt [⟨tg, iter, ifs, 0⟩] scope pos) spos) Dn σ H := by
  intro σ H Dn h
  refine EvS.of (ps_setLc o.calm o.nd hi hx hsw pi_ev c.ok c.hg (fun s H C cl fp => ?_) (fun s H C cl fp => ⟨fun pins s' σ' H' Q I h => h s H C cl fp pins s' I⟩) c.hs) h
  have ht := c.ht
  cases ifs with
  | nil => exact pts_nil
  | cons e er =>
    cases er with
    | nil => exact pts_one ⟨fun pins s' σ' H' Q I h => h s H C cl fp pins s' I⟩
    | cons _ _ => cases co <;> exact ht.elim
theorem EvS.monoD {s : Stmt} {σ : L2.St} {H : Hp} {D1 D2 : Ends} (h : EvS X s D1 σ H) (h1 : ∀ σ H, D1.nx σ H → D2.nx σ H) (h2 : ∀ v H, D1.rt v H → D2.rt v H) (h3 : ∀ σ H, D1.bk σ H → D2.bk σ H) (h4 : ∀ σ H, D1.ct σ H → D2.ct σ H) : EvS X s D2 σ H := fun pins s' I => thn (h pins s' I) fun f s2 q => by
  cases f with
  | next => obtain ⟨σ', H', I', w⟩ := q; exact ⟨σ', H', I', h1 _ _ w⟩
  | brk => obtain ⟨σ', H', I', w⟩ := q; exact ⟨σ', H', I', h3 _ _ w⟩
  | cont => obtain ⟨σ', H', I', w⟩ := q; exact ⟨σ', H', I', h4 _ _ w⟩
  | ret u => obtain ⟨v, σ', H', I', rr, w⟩ := q; exact ⟨v, σ', H', I', rr, h2 _ _ w⟩
theorem lockS {s : Stmt} {σ : L2.St} {F0 Hs H : Hp} {ρ : List Addr} {st : Store} {a : Addr} {u : HO} {Dn : Ends} (g : Glob X.K F0 ρ Hs st H) (hs : Hs a = some u) (hl : lockable u)
    (h : ∀ od HL, Glob X.K F0 ρ (upd Hs a (.frz od u)) st HL → HL = upd H a (.frz od u) → EvS X s ⟨fun σ' H' => H' a = some (.frz od u) ∧ Dn.nx σ' (upd H' a u), fun v H' => H' a = some (.frz od u) ∧ Dn.rt v (upd H' a u), fun σ' H' => H' a = some (.frz od u) ∧ Dn.bk σ' (upd H' a u), fun σ' H' => H' a = some (.frz od u) ∧ Dn.ct σ' (upd H' a u)⟩ σ HL) : EvS X s Dn σ H := by
  refine EvS.of (ps_lock ps_ev) ⟨a, u, g.le _ _ hs, ?_, fun od => h od _ (g.both hs) rfl⟩
  cases u with
  | dK _ => trivial
  | dT _ => trivial
  | _ => exact hl.elim
/-- what a statement of one value does: the value, the things behind it -/
theorem snd_set {e : Expr} {c : CE} {s : Stmt} {i : Nat} (h : SndE X T e c) (hp : Puts X s e i) : SndS X T s (.set i c) := by
  intro n F0 ρ Hs st H σ env r res he Dn kc
  unfold execS at he
  obtain ⟨⟨x1, x2⟩, q, he⟩ := om he
  cases he
  refine hp σ H Dn ?_
  exact r.eval h q [x1] fun v H' ρ' Hs' e1 r1 rv _ _ => kc _ H' ρ' Hs' e1 (r1.setVal i (rv rfl))
/-- .. a new thing of one's own -/
theorem SR.evalOwn {e : Expr} {c : CE} (h : FreshE X T e c) {F0 Hs H : Hp} {ρ : List Addr} {st : Store} {env : List Sl} {σ : L2.St} (r : SR X.K F0 ρ Hs st H env σ) {d : D} {st' : Store} (q : evalE T c (view (vars c) env) st = some (d, st')) {Q : VK}
    (k : ∀ a H' ρ' Hs', Ext ρ Hs ρ' Hs' → (∀ i, SR X.K F0 ρ' Hs' st' H' ((settle (vars c) (inside d) env).set i (.own d)) (σ.set i (some (.ref a)))) → Q (.ref a) H') : Ev X e σ H Q := by
  obtain ⟨F1, Hs1, g1, ev1, bk, _⟩ := r.lend (vars c)
  refine h F1 ρ Hs1 st H σ _ g1 ev1 d st' q _ fun p u H' ρ' Hs1' e1 g' w1 w2 w3 w4 ow => ?_
  obtain ⟨Hs', e2, r2, ls, n1, n2, n3⟩ := bk ρ' Hs1' st' H' (inside d) e1 g'
  refine k p H' ρ' Hs' e2 fun i => r2.setOwn i w1 (ow.less ls) (n1 p w2) (n2 p w3) w4 fun j o hj q1 q2 => ?_
  have q1' : env[j]? = some (Sl.own o) := by
    unfold settle at q1
    rw [List.getElem?_mapIdx] at q1
    obtain ⟨s0, y1, y2⟩ := om q1
    cases s0 with
    | un => cases y2
    | val _ => cases y2
    | own o' =>
      have y2 : (if j ∈ vars c ∧ backs o' (inside d) = false then Sl.val o' else Sl.own o') = Sl.own o := y2
      split at y2
      · cases y2
      · cases y2; exact y1
  rcases n3 j o p q1' q2 with y | y
  · exact y w3
  · exact y w2
theorem snd_setOwn {e : Expr} {c : CE} {s : Stmt} {i : Nat} (h : FreshE X T e c) (hp : Puts X s e i) : SndS X T s (.setOwn i c) := by
  intro n F0 ρ Hs st H σ env r res he Dn kc
  unfold execS at he
  obtain ⟨⟨x1, x2⟩, q, he⟩ := ob he
  split at he
  · cases he
    refine hp σ H Dn ?_
    exact r.evalOwn h q fun a H' ρ' Hs' e1 r1 => kc _ H' ρ' Hs' e1 (r1 i)
  · cases he
/-- x = [..]: by a statement of its own -/
theorem comp_puts {x : Str} {i : Nat} {px pos spos : Pos} {elt tg iter : Expr} {ifs : List Expr} {scope : Scope} {own : List (Str × Nat)} {ce : CE} {ct : CT} {ci : CI} {co : CO} (o : Ok X k T) (hi : X.N[i]? = some x) (hx : X.env.scope.names.lookup x = some .local)
    (hsw : swapsWith (.ListComp elt [⟨tg, iter, ifs, 0⟩] scope pos) (some (.Name x px)) spos.line X.env = pure true) (c : CompOk X T elt tg iter ifs scope own ce ct ci co)
    {F0 ρ Hs st H σ env} (g : Glob X.K F0 ρ Hs st H) (ev : EnvOk X.K ρ Hs env σ) {xs : List D} {st' : Store} (q : evalE T (.comp ce ct ci co (own.map (·.2))) env st = some (.lst xs, st')) {Dn : Ends} (kq : Fresh X.K F0 ρ Hs st' xs fun v H1 => Dn.nx (σ.set i (some v)) H1) :
    EvS X (.Assign [.Name x px] (.ListComp elt [⟨tg, iter, ifs, 0⟩] scope pos) spos) Dn σ H := by
  unfold evalE at q
  obtain ⟨⟨ds, st1⟩, q1, q⟩ := ob q
  obtain ⟨⟨ys, st2⟩, q2, q⟩ := om q
  cases q
  rcases lock_cases (X := X) ci ev with lk | ⟨j, d, a, u, rfl, h1, h2, h3, h4, _⟩
  · exact puts_comp o hi hx hsw c σ H Dn (comp_core o c.hi c.ok c.hg c.ht c.he c.hs c.hin g ev lk q1 q2 kq)
  · refine lockS g h3 h4 fun od HL gL _ => ?_
    refine puts_comp o hi hx hsw c σ HL _ (comp_core o c.hi c.ok c.hg c.ht c.he c.hs c.hin gL (ev.obs (Obs.lock h3 h4)) ?_ q1 q2 ?_)
    · intro d' hd' _
      exact ⟨a, od, u, h2, upd_same⟩
    · intro p vs H' ρ' Hs' e g' w1 w2 w3 w4 r
      have hf : Hs' a = some (.frz od u) := e.sub _ _ upd_same
      have ne : p ≠ a := fun z => by subst z; rw [hf] at w2; cases w2
      have r' := RepL.obs (List.prefix_refl ρ') (Obs.unlock hf h4) _ _ r
      exact ⟨g'.frz hf, kq p vs _ ρ' _ (ext_unlock h3 e) (g'.both hf) (by rw [upd_ne ne]; exact w1) (by rw [upd_ne ne]; exact w2) w3 w4 r'⟩
theorem compval {ce : CE} {ct : CT} {ci : CI} {co : CO} {own : List Nat} {env : List (Option D)} {st st' : Store} {d : D} (q : evalE T (.comp ce ct ci co own) env st = some (d, st')) : ∃ xs, d = .lst xs := by
  unfold evalE at q
  obtain ⟨_, _, q⟩ := ob q
  obtain ⟨y, _, q⟩ := om q
  cases q
  exact ⟨_, rfl⟩
theorem snd_setComp {x : Str} {i : Nat} {px pos spos : Pos} {elt tg iter : Expr} {ifs : List Expr} {scope : Scope} {own : List (Str × Nat)} {ce : CE} {ct : CT} {ci : CI} {co : CO} (o : Ok X k T) (hi : X.N[i]? = some x) (hx : X.env.scope.names.lookup x = some .local)
    (hsw : swapsWith (.ListComp elt [⟨tg, iter, ifs, 0⟩] scope pos) (some (.Name x px)) spos.line X.env = pure true) (c : CompOk X T elt tg iter ifs scope own ce ct ci co) :
    SndS X T (.Assign [.Name x px] (.ListComp elt [⟨tg, iter, ifs, 0⟩] scope pos) spos) (.set i (.comp ce ct ci co (own.map (·.2)))) := by
  intro n F0 ρ Hs st H σ env r res he Dn kc
  unfold execS at he
  obtain ⟨⟨x1, x2⟩, q, he⟩ := om he
  cases he
  obtain ⟨xs, rfl⟩ := compval q
  obtain ⟨F1, Hs1, g1, ev1, bk, _⟩ := r.lend (vars (.comp ce ct ci co (own.map (·.2))))
  refine comp_puts o hi hx hsw c g1 ev1 q fun p vs H' ρ' Hs1' e1 g' w1 w2 w3 w4 rv => ?_
  obtain ⟨Hs', e2, r2, ls, n1, n2, n3⟩ := bk ρ' (upd Hs1' p (.lst vs)) x2 H' [.lst xs] (e1.trans (Ext.upd w2)) (g'.freeze w1 w2 w3 w4)
  refine kc _ H' ρ' Hs' e2 (r2.setVal i (Rep.less (.lst xs) _ (fun b u w => ?_) (Rep.lst.mpr ⟨p, vs, rfl, upd_same, (Ext.upd w2).repL rv⟩)))
  rcases ls b u w with y | ⟨y1, y2⟩ | ⟨y1, y2⟩
  · exact .inl y
  · exact .inr (.inl ⟨y1, by simpa [D.hasLs] using y2⟩)
  · exact .inr (.inr ⟨y1, by simpa [D.hasMs] using y2⟩)
theorem snd_setOwnComp {x : Str} {i : Nat} {px pos spos : Pos} {elt tg iter : Expr} {ifs : List Expr} {scope : Scope} {own : List (Str × Nat)} {ce : CE} {ct : CT} {ci : CI} {co : CO} (o : Ok X k T) (hi : X.N[i]? = some x) (hx : X.env.scope.names.lookup x = some .local)
    (hsw : swapsWith (.ListComp elt [⟨tg, iter, ifs, 0⟩] scope pos) (some (.Name x px)) spos.line X.env = pure true) (c : CompOk X T elt tg iter ifs scope own ce ct ci co) :
    SndS X T (.Assign [.Name x px] (.ListComp elt [⟨tg, iter, ifs, 0⟩] scope pos) spos) (.setOwn i (.comp ce ct ci co (own.map (·.2)))) := by
  intro n F0 ρ Hs st H σ env r res he Dn kc
  unfold execS at he
  obtain ⟨⟨x1, x2⟩, q, he⟩ := ob he
  split at he
  · cases he
    obtain ⟨xs, rfl⟩ := compval q
    obtain ⟨F1, Hs1, g1, ev1, bk, _⟩ := r.lend (vars (.comp ce ct ci co (own.map (·.2))))
    refine comp_puts o hi hx hsw c g1 ev1 q fun p vs H' ρ' Hs1' e1 g' w1 w2 w3 w4 rv => ?_
    obtain ⟨Hs', e2, r2, ls, n1, n2, n3⟩ := bk ρ' Hs1' x2 H' xs e1 g'
    refine kc _ H' ρ' Hs' e2 (r2.setOwn i w1 (RepL.less xs vs ls rv : OwnO X.K ρ' Hs' (.lst xs) (.lst vs)) (n1 p w2) (n2 p w3) w4 fun j oo hj q1 q2 => ?_)
    have q1' : env[j]? = some (Sl.own oo) := by
      unfold settle at q1
      rw [List.getElem?_mapIdx] at q1
      obtain ⟨s0, y1, y2⟩ := om q1
      cases s0 with
      | un => cases y2
      | val _ => cases y2
      | own o' =>
        have y2 : (if j ∈ vars (.comp ce ct ci co (own.map (·.2))) ∧ backs o' xs = false then Sl.val o' else Sl.own o') = Sl.own oo := y2
        split at y2
        · cases y2
        · cases y2; exact y1
    rcases n3 j oo p q1' q2 with y | y
    · exact y w3
    · exact y w2
  · cases he
/-! ### several targets -/
theorem PSl.vals {K : PySem.W.Frag} {ρ : List Addr} {Hs F : Hp} : ∀ {xs : List D} {vs : List V}, RepL K ρ Hs xs vs → PSl K ρ Hs F F (xs.map .val) vs
  | [], vs, r => ⟨RepL.nil_iff.mp r, rfl⟩
  | x :: xs, vs, r => by
    obtain ⟨v, q, h1, h2, t⟩ := RepL.cons_iff.mp r
    exact ⟨v, q, h1, h2, PSl.vals t⟩
theorem SR.setVals {K : PySem.W.Frag} {F0 Hs H : Hp} {ρ : List Addr} {st : Store} {is : List Nat} {xs : List D} {vs : List V} {env : List Sl} {σ : L2.St} (r : SR K F0 ρ Hs st H env σ) (hv : RepL K ρ Hs xs vs) (hl : is.length = xs.length) : SR K F0 ρ Hs st H (setS env is (xs.map .val)) (setAll σ is vs) :=
  r.setP (F := H) (Hx := Hs) (F2 := H) (fun i o a q1 q2 => by
    obtain ⟨a', u, z1, z2, _⟩ := r.own i o q1
    rw [q2] at z1
    cases z1
    left; rw [z2]; exact fun z => by cases z) (fun a u q z => by rw [q] at z; cases z) (PSl.vals hv) (by rw [List.length_map]; exact hl)
theorem pg_or {tg : Expr} {g1 g2 : TG} (h1 : PG X tg g1) (h2 : PG X tg g2) : PG X tg (fun v σ H Q => g1 v σ H Q ∨ g2 v σ H Q) := ⟨fun pins s σ H v u Q I r h => h.elim (h1.run pins s σ H v u Q I r) (h2.run pins s σ H v u Q I r)⟩
theorem snd_unpack {e tg : Expr} {c : CE} {is : List Nat} {pos : Pos} (h : SndE X T e c) (hg : PG X tg (tgR X.K (.nms is))) (hg2 : PG X tg (gLst X.K is.length (gNames is))) (hs : swapsWithSole [tg] e pos.line X.env = pure false) (hw : swappedStores [tg] e X.env = pure none) (h1 : (assignEach [tg] X.env).map (·.2) = [assign tg X.env]) : SndS X T (.Assign [tg] e pos) (.unpack is c) := by
  intro n F0 ρ Hs st H σ env r res he Dn kc
  unfold execS at he
  obtain ⟨⟨x1, x2⟩, q, he⟩ := ob he
  cases x1 with
  | tup xs =>
    dsimp only at he
    split at he
    · rename_i hl
      cases he
      refine EvS.of (ps_asg pe_ev (pg_or hg hg2) hs hw h1) ?_
      refine r.eval h q xs fun v H' ρ' Hs' e1 r1 _ ht _ => ?_
      obtain ⟨a, vs, rfl, w1, w2⟩ := ht xs rfl rfl
      exact .inl ⟨a, vs, rfl, SqT.of w1, by rw [← w2.length, hl], gNames_of (by rw [hl, w2.length]) (kc _ H' ρ' Hs' e1 (r1.setVals w2 hl))⟩
    · cases he
  | lst xs =>
    dsimp only at he
    split at he
    · rename_i hl
      cases he
      refine EvS.of (ps_asg pe_ev (pg_or hg hg2) hs hw h1) ?_
      refine r.eval h q xs fun v H' ρ' Hs' e1 r1 _ _ ht => ?_
      obtain ⟨a, vs, rfl, w1, w2⟩ := ht xs rfl rfl
      exact .inr ⟨a, vs, rfl, SqL.of w1, by rw [← w2.length, hl], gNames_of (by rw [hl, w2.length]) (kc _ H' ρ' Hs' e1 (r1.setVals w2 hl))⟩
    · cases he
  | _ => cases he
/-- the values of a display, then the names -/
theorem SR.evalP' {es : List Expr} {cl : CL} {bs : List Bool} (h : SndP X T bs es cl) {F0 Hs H : Hp} {ρ : List Addr} {st : Store} {env : List Sl} {σ : L2.St} (r : SR X.K F0 ρ Hs st H env σ) {ss : List Sl} {st' : Store} (q : evalP T bs cl (view (varsL cl) env) st = some (ss, st')) {Q : List V → Hp → Prop}
    (k : ∀ vs H' ρ' Hs', Ext ρ Hs ρ' Hs' → ss.length = vs.length → (∀ is, is.length = ss.length → SR X.K F0 ρ' Hs' st' H' (setS (settle (varsL cl) (slData ss) env) is ss) (setAll σ is vs)) → Q vs H') : EvA X es σ H Q := by
  obtain ⟨F1, Hs1, g1, ev1, bk, _⟩ := r.lend (varsL cl)
  refine h F1 ρ Hs1 st H σ _ g1 ev1 ss st' q _ fun vs H' ρ' Hs1' F2 e1 g' ps => ?_
  obtain ⟨Hs', e2, r2, ls, n1, n2, n3⟩ := bk ρ' Hs1' st' H' (slData ss) e1 (g'.fewer (PSl.sub ps))
  refine k vs H' ρ' Hs' e2 (PSl.len ps) fun is hl => ?_
  refine SR.setP (F := F1) (F2 := F2) (Hx := Hs1') r2 (fun j o a q1 q2 => ?_) (fun a u w z => ?_) (PSl.less ls ps) hl
  · refine n3 j o a ?_ q2
    unfold settle at q1
    rw [List.getElem?_mapIdx] at q1
    obtain ⟨s0, y1, y2⟩ := om q1
    cases s0 with
    | un => cases y2
    | val _ => cases y2
    | own o' =>
      have y2 : (if j ∈ varsL cl ∧ backs o' (slData ss) = false then Sl.val o' else Sl.own o') = Sl.own o := y2
      split at y2
      · cases y2
      · cases y2; exact y1
  · obtain ⟨w1, w2, w3, _⟩ := g'.foe a u w
    exact ⟨w1, n1 a w2, n2 a z, w3, w2⟩
theorem snd_par2 {x y : Str} {i j : Nat} {a b : Expr} {cl : CL} {bs : List Bool} {px py pt pos pt2 : Pos} {kt k2 : Nat} (o : Ok X k T) (hi : X.N[i]? = some x) (hj : X.N[j]? = some y) (hij : i ≠ j) (hx : X.env.scope.names.lookup x = some .local) (hy : X.env.scope.names.lookup y = some .local)
    (h : SndP X T bs [a, b] cl) (hw : swappedStores [.Tuple [.Name x px, .Name y py] kt pt] (.Tuple [a, b] k2 pt2) X.env = pure (some [x, y])) : SndS X T (.Assign [.Tuple [.Name x px, .Name y py] kt pt] (.Tuple [a, b] k2 pt2) pos) (.par [i, j] bs cl) := by
  intro n F0 ρ Hs st H σ env r res he Dn kc
  unfold execS at he
  obtain ⟨⟨ss, x2⟩, q, he⟩ := ob he
  split at he
  · rename_i hl
    cases he
    refine EvS.of (ps_par o.calm o.nd hi hj hij hx hy pa_ev hw) ?_
    refine r.evalP' h q fun vs H' ρ' Hs' e1 hlen r1 => ?_
    have h2 : vs.length = 2 := by rw [← hlen]; exact hl.symm
    match vs, h2 with
    | [v, w], _ => exact ⟨v, w, rfl, kc _ H' ρ' Hs' e1 (r1 [i, j] hl)⟩
  · cases he
theorem snd_par3 {x y z : Str} {i j l : Nat} {a b c : Expr} {cl : CL} {bs : List Bool} {px py pz pt pos pt2 : Pos} {kt k2 : Nat} (o : Ok X k T) (hi : X.N[i]? = some x) (hj : X.N[j]? = some y) (hl0 : X.N[l]? = some z) (hij : i ≠ j) (hil : i ≠ l) (hjl : j ≠ l) (hx : X.env.scope.names.lookup x = some .local) (hy : X.env.scope.names.lookup y = some .local) (hz : X.env.scope.names.lookup z = some .local)
    (h : SndP X T bs [a, b, c] cl) (hw : swappedStores [.Tuple [.Name x px, .Name y py, .Name z pz] kt pt] (.Tuple [a, b, c] k2 pt2) X.env = pure (some [x, y, z])) : SndS X T (.Assign [.Tuple [.Name x px, .Name y py, .Name z pz] kt pt] (.Tuple [a, b, c] k2 pt2) pos) (.par [i, j, l] bs cl) := by
  intro n F0 ρ Hs st H σ env r res he Dn kc
  unfold execS at he
  obtain ⟨⟨ss, x2⟩, q, he⟩ := ob he
  split at he
  · rename_i hl
    cases he
    refine EvS.of (ps_par3 o.calm o.nd hi hj hl0 hij hil hjl hx hy hz pa_ev hw) ?_
    refine r.evalP' h q fun vs H' ρ' Hs' e1 hlen r1 => ?_
    have h2 : vs.length = 3 := by rw [← hlen]; exact hl.symm
    match vs, h2 with
    | [v, w, u], _ => exact ⟨v, w, u, rfl, kc _ H' ρ' Hs' e1 (r1 [i, j, l] hl)⟩
  · cases he
/-- a tuple is made and taken apart -/
theorem snd_parT {tg : Expr} {es : List Expr} {is : List Nat} {cl : CL} {bs : List Bool} {pos pt2 : Pos} {k2 : Nat} (h : SndP X T bs es cl) (hg : PG X tg (tgR X.K (.nms is))) (hs : swapsWithSole [tg] (.Tuple es k2 pt2) pos.line X.env = pure false) (hw : swappedStores [tg] (.Tuple es k2 pt2) X.env = pure none)
    (h1 : (assignEach [tg] X.env).map (·.2) = [assign tg X.env]) (hn : is.length ≤ 1000) : SndS X T (.Assign [tg] (.Tuple es k2 pt2) pos) (.par is bs cl) := by
  intro n F0 ρ Hs st H σ env r res he Dn kc
  unfold execS at he
  obtain ⟨⟨ss, x2⟩, q, he⟩ := ob he
  split at he
  · rename_i hl
    cases he
    refine EvS.of (ps_asg (pe_tup pa_ev) hg hs hw h1) ?_
    refine r.evalP' h q fun vs H' ρ' Hs' e1 hlen r1 => ⟨?_, fun p hp => ?_⟩
    · rw [← hlen, ← hl]; exact Nat.le_trans hn (by decide)
    · refine ⟨p, vs, rfl, SqT.of upd_same, by rw [← hlen, hl], gNames_of (by rw [hl, hlen]) (kc _ _ ρ' Hs' e1 ?_)⟩
      have r2 := r1 is hl
      exact ⟨r2.g.own hp, r2.len, r2.val, fun j oo qq => by
        obtain ⟨a, u, z1, z2, z3⟩ := r2.own j oo qq
        exact ⟨a, u, z1, by rw [upd_ne (ne_of_none z2 hp)]; exact z2, z3⟩, r2.inj⟩
  · cases he
end
end Q

set_option Elab.async false
set_option linter.all false
set_option maxRecDepth 100000
set_option maxHeartbeats 1000000
namespace Q
open PySem PySem.Spec PyProof.Rows L2
section
variable {X : Cx} {T : Tab} {k : Nat}
theorem settle_none {ds : List D} {env : List Sl} : settle [] ds env = env := by
  apply List.ext_getElem?
  intro i
  unfold settle
  rw [List.getElem?_mapIdx]
  cases env[i]? with
  | none => rfl
  | some s =>
    cases s with
    | own o => simp [settleS]
    | _ => rfl
/-- one's own thing at slot i is written -/
theorem SR.write {K : PySem.W.Frag} {F0 Hs H : Hp} {ρ : List Addr} {st : Store} {env : List Sl} {σ : L2.St} (r : SR K F0 ρ Hs st H env σ) {i : Nat} {o o' : D} {a : Addr} {u' : HO} (h1 : env[i]? = some (.own o)) (h2 : σ[i]? = some (some (.ref a))) (h3 : OwnO K ρ Hs o' u') :
    SR K F0 ρ Hs st (upd H a u') (env.set i (.own o')) σ := by
  obtain ⟨a', u, w1, w2, w3, w4, w5, w6⟩ := r.own i o h1
  rw [h2] at w1
  cases w1
  have ne : ∀ (j : Nat) (e : D) (b : Addr), j ≠ i → env[j]? = some (Sl.own e) → σ[j]? = some (some (V.ref b)) → b ≠ a := fun j e b hj q1 q2 z => by
    subst z
    exact hj (r.inj j i e o b q1 h1 q2 h2)
  refine ⟨⟨fun b v e => ?_, fun b v e => ?_, r.g.nd, r.g.len, fun j c e => ?_⟩, by rw [List.length_set]; exact r.len, fun j d q => ?_, fun j d q => ?_, fun x y d1 d2 p q1 q2 z1 z2 => ?_⟩
  · rw [upd_ne (fun z => by subst z; rw [w4] at e; cases e)]; exact r.g.le b v e
  · have nb : b ≠ a := fun z => by subst z; rw [w5] at e; cases e
    rw [upd_ne nb]; exact r.g.foe b v e
  · obtain ⟨b, z1, z2, z3⟩ := r.g.cell j c e
    have nb : b ≠ a := fun z => by subst z; exact w6 (List.mem_of_getElem? z1)
    exact ⟨b, z1, by rw [upd_ne nb]; exact z2, z3⟩
  · rcases set_get q with ⟨rfl, h, _⟩ | ⟨hne, h⟩
    · cases h
    · exact r.val j d h
  · rcases set_get q with ⟨rfl, h, _⟩ | ⟨hne, h⟩
    · cases h; exact ⟨a, u', h2, upd_same, h3, w4, w5, w6⟩
    · obtain ⟨b, v, z1, z2, z3⟩ := r.own j d h
      exact ⟨b, v, z1, by rw [upd_ne (ne j d b (Ne.symm hne) h z1)]; exact z2, z3⟩
  · rcases set_get q1 with ⟨rfl, h, _⟩ | ⟨hne, h⟩
    · rcases set_get q2 with ⟨rfl, h', _⟩ | ⟨hne', h'⟩
      · rfl
      · rw [h2] at z1; cases z1; exact absurd rfl (ne y d2 a (Ne.symm hne') h' z2)
    · rcases set_get q2 with ⟨rfl, h', _⟩ | ⟨hne', h'⟩
      · rw [h2] at z2; cases z2; exact absurd rfl (ne x d1 a (Ne.symm hne) h z1)
      · exact r.inj x y d1 d2 p h h' z1 z2
theorem snd_app {x : Str} {i : Nat} {e : Expr} {c : CE} {px ap cp pos : Pos} (hi : X.N[i]? = some x) (hv : Vis X.env.scope x) (hd : (x == ("__debug__" : Str)) = false) (hcd : (x == ("__classdict__" : Str)) = false) (h : SndE X T e c) (hs : notStar e = true) (hl : (ap.endLine == cp.line) = true) :
    SndS X T (.Expr (.Call (.Attribute (.Name x px) "append" ap) [e] [] cp) pos) (.app i c) := by
  intro n F0 ρ Hs st H σ env r res he Dn kc
  unfold execS at he
  obtain ⟨⟨x1, x2⟩, q, he⟩ := ob he
  dsimp only at he
  split at he
  · rename_i xs hown
    split at he
    · rename_i hlen
      cases he
      have hown0 : ∃ o, env[i]? = some (Sl.own o) := by
        unfold settle at hown
        rw [List.getElem?_mapIdx] at hown
        obtain ⟨s0, y1, y2⟩ := om hown
        cases s0 with
        | un => cases y2
        | val _ => cases y2
        | own o' => exact ⟨o', y1⟩
      obtain ⟨o0, hown0⟩ := hown0
      obtain ⟨a, u, w1, w2, w3, _⟩ := r.own i o0 hown0
      have hlst : ∃ ys, H a = some (.lst ys) := by
        unfold settle at hown
        rw [List.getElem?_mapIdx, hown0] at hown
        have y2 : (if i ∈ vars c ∧ backs o0 [x1] = false then Sl.val o0 else Sl.own o0) = Sl.own (.lst xs) := Option.some.inj hown
        split at y2
        · cases y2
        · cases y2
          cases u with
          | lst ys => exact ⟨ys, w2⟩
          | _ => exact w3.elim
      obtain ⟨ys, w2'⟩ := hlst
      refine EvS.of (ps_expr (pe_bm PySem.F.plainAttrs_list PySem.F.slot_list_append PySem.F.type_list_append mt_append (pe_var hi hv hd hcd) pa_ev rfl (by rw [star_cons hs]; rfl) hl (star_cons hs) rfl)) ?_
      refine ⟨_, w1, .inl ⟨rfl, _, SqL.of w2'⟩, EvA.one hs ?_⟩
      refine r.eval h q [x1] fun v H' ρ' Hs' e1 r1 rv _ _ => ?_
      obtain ⟨a', u', z1, z2, z3, _⟩ := r1.own i _ hown
      rw [w1] at z1
      cases z1
      cases u' with
      | lst vs =>
        have z3 : RepL X.K ρ' Hs' xs vs := z3
        exact ⟨a, vs, v, rfl, rfl, z2, by rw [← z3.length]; exact hlen, kc σ _ ρ' Hs' e1 (r1.write hown w1 (z3.append (.cons (rv rfl) .nil) : OwnO X.K ρ' Hs' (.lst (xs ++ [x1])) (.lst (vs ++ [v]))))⟩
      | _ => exact z3.elim
    · cases he
  · cases he
theorem snd_ext {x : Str} {i : Nat} {e : Expr} {c : CE} {px ap cp pos : Pos} (hi : X.N[i]? = some x) (hv : Vis X.env.scope x) (hd : (x == ("__debug__" : Str)) = false) (hcd : (x == ("__classdict__" : Str)) = false) (h : SndE X T e c) (hs : notStar e = true) (hl : (ap.endLine == cp.line) = true) :
    SndS X T (.Expr (.Call (.Attribute (.Name x px) "extend" ap) [e] [] cp) pos) (.ext i c) := by
  intro n F0 ρ Hs st H σ env r res he Dn kc
  unfold execS at he
  obtain ⟨⟨x1, x2⟩, q, he⟩ := ob he
  cases x1 with
  | lst zs =>
    dsimp only at he
    split at he
    · rename_i xs hown
      split at he
      · rename_i hlen
        cases he
        have hown0 : ∃ o, env[i]? = some (Sl.own o) := by
          unfold settle at hown
          rw [List.getElem?_mapIdx] at hown
          obtain ⟨s0, y1, y2⟩ := om hown
          cases s0 with
          | un => cases y2
          | val _ => cases y2
          | own o' => exact ⟨o', y1⟩
        obtain ⟨o0, hown0⟩ := hown0
        obtain ⟨a, u, w1, w2, w3, _⟩ := r.own i o0 hown0
        have hlst : ∃ ys, H a = some (.lst ys) := by
          unfold settle at hown
          rw [List.getElem?_mapIdx, hown0] at hown
          have y2 : (if i ∈ vars c ∧ backs o0 zs = false then Sl.val o0 else Sl.own o0) = Sl.own (.lst xs) := Option.some.inj hown
          split at y2
          · cases y2
          · cases y2
            cases u with
            | lst ys => exact ⟨ys, w2⟩
            | _ => exact w3.elim
        obtain ⟨ys, w2'⟩ := hlst
        refine EvS.of (ps_expr (pe_bm PySem.F.plainAttrs_list PySem.F.slot_list_extend PySem.F.type_list_extend mt_extend (pe_var hi hv hd hcd) pa_ev rfl (by rw [star_cons hs]; rfl) hl (star_cons hs) rfl)) ?_
        refine ⟨_, w1, .inl ⟨rfl, _, SqL.of w2'⟩, EvA.one hs ?_⟩
        refine r.eval h q zs fun v H' ρ' Hs' e1 r1 _ _ rl => ?_
        obtain ⟨b, us, rfl, v1, v2⟩ := rl zs rfl rfl
        obtain ⟨a', u', z1, z2, z3, _⟩ := r1.own i _ hown
        rw [w1] at z1
        cases z1
        cases u' with
        | lst vs =>
          have z3 : RepL X.K ρ' Hs' xs vs := z3
          exact ⟨a, b, vs, us, rfl, rfl, z2, v1, by rw [← z3.length, ← v2.length]; exact hlen, kc σ _ ρ' Hs' e1 (r1.write hown w1 (z3.append v2 : OwnO X.K ρ' Hs' (.lst (xs ++ zs)) (.lst (vs ++ us))))⟩
        | _ => exact z3.elim
      · cases he
    · cases he
  | _ => cases he
theorem dropLast_rep {K : PySem.W.Frag} {ρ : List Addr} {Hs : Hp} {xs : List D} {vs : List V} (h : RepL K ρ Hs xs vs) : RepL K ρ Hs xs.dropLast vs.dropLast := by
  rw [List.dropLast_eq_take, List.dropLast_eq_take, h.length]
  exact h.take _
theorem snd_popTo {x : Str} {i : Nat} {tg : Expr} {is : List Nat} {px ap cp pos : Pos} (hi : X.N[i]? = some x) (hv : Vis X.env.scope x) (hd : (x == ("__debug__" : Str)) = false) (hcd : (x == ("__classdict__" : Str)) = false) (hg : PG X tg (tgR X.K (.nms is))) (hl : (ap.endLine == cp.line) = true)
    (hs : swapsWithSole [tg] (.Call (.Attribute (.Name x px) "pop" ap) [] [] cp) pos.line X.env = pure false) (hw : swappedStores [tg] (.Call (.Attribute (.Name x px) "pop" ap) [] [] cp) X.env = pure none) (h1 : (assignEach [tg] X.env).map (·.2) = [assign tg X.env]) :
    SndS X T (.Assign [tg] (.Call (.Attribute (.Name x px) "pop" ap) [] [] cp) pos) (.popTo is i) := by
  intro n F0 ρ Hs st H σ env r res he Dn kc
  unfold execS at he
  split at he
  · rename_i xs hown
    split at he
    · rename_i ys hlast
      split at he
      · rename_i hlen
        cases he
        obtain ⟨a, u, w1, w2, w3, _⟩ := r.own i _ hown
        cases u with
        | lst vs =>
          have w3 : RepL X.K ρ Hs xs vs := w3
          obtain ⟨v, z1, z2⟩ := w3.get hlast
          rw [w3.length] at z1
          obtain ⟨b, us, rfl, z3, z4⟩ := Rep.tup.mp z2
          refine EvS.of (ps_asg (pe_bm0 PySem.F.plainAttrs_list PySem.F.slot_list_pop PySem.F.type_list_pop mt_pop (pe_var hi hv hd hcd) rfl hl) hg hs hw h1) ?_
          refine ⟨_, w1, .inl ⟨rfl, _, SqL.of w2⟩, a, vs, _, rfl, rfl, w2, z1, ?_⟩
          have r1 := r.write hown w1 (o' := .lst xs.dropLast) (u' := .lst vs.dropLast) (dropLast_rep w3)
          refine ⟨b, us, rfl, SqT.of (r1.g.tup z3), by rw [← z4.length, hlen], gNames_of (by rw [hlen, z4.length]) (kc _ _ ρ Hs (Ext.refl _ _) (r1.setVals z4 hlen))⟩
        | _ => exact w3.elim
      · cases he
    · cases he
  · cases he
/-- return [..], the list a cell -/
theorem snd_retCell {es : List Expr} {cl : CL} {p pos : Pos} (h : SndL X T es cl) (hl : cl.len ≤ 1000) : SndS X T (.Return (some (.List es p)) pos) (.retCell cl) := by
  intro n F0 ρ Hs st H σ env r res he Dn kc
  unfold execS at he
  obtain ⟨⟨x1, x2⟩, q, he⟩ := ob he
  obtain ⟨ns, hn, he⟩ := om he
  cases he
  refine EvS.of (ps_ret (pe_lst pa_ev)) ?_
  obtain ⟨F1, Hs1, g1, ev1, bk, _⟩ := r.lend (varsL cl)
  refine h F1 ρ Hs1 st H σ _ g1 ev1 _ _ q _ fun vs H' ρ' Hs1' e1 g' rv => ⟨?_, fun p hp => ?_⟩
  · rw [← rv.length, evalL_len q]; exact Nat.le_trans hl (by decide)
  · obtain ⟨Hs', e2, r2, ls, n1, n2, n3⟩ := bk ρ' Hs1' _ H' [] e1 g'
    have g2 := r2.g
    cases intsOf_rep hn rv
    have hpn := g2.notin hp
    refine kc _ _ (ρ' ++ [p]) Hs' ⟨e2.pre.trans (List.prefix_append _ _), e2.sub⟩ ⟨fun b u e => ?_, fun b u e => ?_, ?_, by rw [List.length_append, List.length_append, g2.len]; rfl, fun j c e => ?_⟩ (Rep.cell.mpr ⟨p, ?_, rfl⟩)
    · rw [upd_ne (ne_of_none (g2.le b u e) hp)]; exact g2.le b u e
    · obtain ⟨z1, z2, z3, z4⟩ := g2.foe b u e
      have nb : b ≠ p := ne_of_none z1 hp
      exact ⟨by rw [upd_ne nb]; exact z1, z2, fun hm => (List.mem_append.mp hm).elim z3 fun z => nb (by simpa using z), z4⟩
    · rw [List.nodup_append]
      exact ⟨g2.nd, by simp, fun a ha b hb z => hpn (by have e0 : b = p := (by simpa using hb); rw [← e0, ← z]; exact ha)⟩
    · have e : (x2 ++ [ns])[j]? = some c := e
      by_cases hj : j < x2.length
      · rw [List.getElem?_append_left hj] at e
        obtain ⟨a, z1, z2, z3⟩ := g2.cell j c e
        exact ⟨a, by rw [List.getElem?_append_left (by rw [g2.len]; exact hj)]; exact z1, by rw [upd_ne (ne_of_none z2 hp)]; exact z2, z3⟩
      · rw [List.getElem?_append_right (by omega)] at e
        have hj2 : j - x2.length = 0 := by
          cases hz : j - x2.length with
          | zero => rfl
          | succ m => rw [hz] at e; simp at e
        rw [hj2] at e
        cases e
        refine ⟨p, ?_, upd_same, g2.fresh hp⟩
        rw [List.getElem?_append_right (by rw [g2.len]; omega), g2.len, hj2]; rfl
    · show (ρ' ++ [p])[x2.length]? = some p
      rw [← g2.len, List.getElem?_append_right (Nat.le_refl _), Nat.sub_self]; rfl
/-! ### tests and loops -/
theorem SR.test {e : Expr} {c : CE} (h : SndT X T e c) {F0 Hs H : Hp} {ρ : List Addr} {st : Store} {env : List Sl} {σ : L2.St} (r : SR X.K F0 ρ Hs st H env σ) {b : Bool} {env' : List Sl} {st' : Store} (q : testS T c env st = some (b, env', st')) {Q : Bool → Hp → Prop}
    (kq : ∀ H' ρ' Hs', Ext ρ Hs ρ' Hs' → SR X.K F0 ρ' Hs' st' H' env' σ → Q b H') : EvT X e σ H Q := by
  unfold testS at q
  obtain ⟨⟨x1, x2⟩, q1, q⟩ := ob q
  cases x1 with
  | bl b0 =>
    cases q
    obtain ⟨F1, Hs1, g1, ev1, bk, _⟩ := r.lend (vars c)
    refine h F1 ρ Hs1 st H σ _ g1 ev1 _ _ q1 _ fun H' ρ' Hs1' e1 g' => ?_
    obtain ⟨Hs', e2, r2, _⟩ := bk ρ' Hs1' _ H' [] e1 g'
    exact kq H' ρ' Hs' e2 r2
  | _ => cases q
theorem snd_iff {t : Expr} {c : CE} {a b : List Stmt} {ca cb : CS} {pos : Pos} (h0 : SndT X T t c) (h1 : SndSs X T a ca) (h2 : SndSs X T b cb) : SndS X T (.If t a b pos) (.iff c ca cb) := by
  intro n F0 ρ Hs st H σ env r res he Dn kc
  unfold execS at he
  obtain ⟨⟨b0, env1, st1⟩, q, he⟩ := ob he
  refine EvS.of (ps_if pt_ev pss_ev pss_ev) ?_
  refine r.test h0 q fun H' ρ' Hs' e1 r1 => ?_
  cases b0 with
  | true => exact iteT (h1 n F0 ρ' Hs' _ H' σ env1 r1 _ he Dn (kc.mono e1))
  | false => exact iteF (h2 n F0 ρ' Hs' _ H' σ env1 r1 _ he Dn (kc.mono e1))
theorem SR.bind {K : PySem.W.Frag} {F0 Hs H : Hp} {ρ : List Addr} {st : Store} {env e1 : List Sl} {σ : L2.St} {tg : CT} {d : D} {v : V} {Q : L2.St → Hp → Prop} (r : SR K F0 ρ Hs st H env σ) (hb : bindS tg d env = some e1) (rv : Rep K ρ Hs d v)
    (h : ∀ σ', SR K F0 ρ Hs st H e1 σ' → Q σ' H) : tgR K tg v σ H Q := by
  cases tg with
  | nm i => cases hb; exact h _ (r.setVal i rv)
  | nms is =>
    cases d with
    | tup xs =>
      unfold bindS at hb
      dsimp only at hb
      split at hb
      · rename_i hl
        cases hb
        obtain ⟨a, vs, rfl, h1, h2⟩ := Rep.tup.mp rv
        exact ⟨a, vs, rfl, SqT.of (r.g.tup h1), by rw [← h2.length, hl], gNames_of (by rw [hl, h2.length]) (h _ (r.setVals h2 hl))⟩
      · cases hb
    | _ => cases hb
/-- the turns of a for -/
theorem for_core {tg : Expr} {body : List Stmt} {ct : CT} {cb : CS} {J : It} {n : Nat} (hb : SndSs X T body cb) {F0 Hs H : Hp} {ρ : List Addr} {st : Store} {env : List Sl} {σ : L2.St} {ds : List D} (r : SR X.K F0 ρ Hs st H env σ) (wd : WD X.K J ρ Hs ds) {res : Fl × List Sl × Store}
    (he : loopGo (fun d e s => (bindS ct d e).bind fun e1 => execS T n cb e1 s) ds env st = some res) {Dn : Ends} (kc : ContS X.K F0 ρ Hs res Dn) (hres : ∀ e s, res ≠ (.ct, e, s)) :
    ∃ W : Nat → Nat → L2.St → Hp → Prop, (∃ m, W 0 m σ H) ∧ ∀ i m σ H, W i m σ H → (J.stop i H ∧ Dn.nx σ H) ∨ (J.go i H ∧ ∃ N : L2.St → Hp → Prop, (∀ σ' H', N σ' H' → ∃ m', m' < m ∧ W (i + 1) m' σ' H') ∧ ∀ x H', J.yld i H x H' → tgR X.K ct x σ H' fun σ2 H2 => EvSs X body { Dn with nx := N, ct := N, bk := Dn.nx } σ2 H2) := by
  refine ⟨fun i m σ' H' => m = ds.length - i ∧ i ≤ ds.length ∧ ∃ ρ2 Hs2 envI stI, Ext ρ Hs ρ2 Hs2 ∧ SR X.K F0 ρ2 Hs2 stI H' envI σ' ∧ loopGo (fun d e s => (bindS ct d e).bind fun e1 => execS T n cb e1 s) (ds.drop i) envI stI = some res, ⟨ds.length, rfl, Nat.zero_le _, ρ, Hs, env, st, Ext.refl _ _, r, he⟩, ?_⟩
  rintro i m σ' H' ⟨rfl, hil, ρ2, Hs2, envI, stI, e2, r2, hgo⟩
  by_cases hi2 : ds.length ≤ i
  · rw [List.drop_of_length_le hi2] at hgo
    cases hgo
    exact .inl ⟨(wd _ ρ2 Hs2 stI H' i e2 r2.g).2 hi2, kc σ' H' ρ2 Hs2 e2 r2⟩
  · have hlt : i < ds.length := by omega
    obtain ⟨F1, Hs1, g1, _, bk, x1⟩ := r2.lend []
    obtain ⟨w1, w2⟩ := (wd F1 ρ2 Hs1 stI H' i (e2.trans x1) g1).1 _ (List.getElem?_eq_getElem hlt)
    refine .inr ⟨w1, fun σ'' H'' => ∃ ρ3 Hs3 envI stI, Ext ρ Hs ρ3 Hs3 ∧ SR X.K F0 ρ3 Hs3 stI H'' envI σ'' ∧ loopGo (fun d e s => (bindS ct d e).bind fun e1 => execS T n cb e1 s) (ds.drop (i + 1)) envI stI = some res, fun σ'' H'' h => ⟨ds.length - (i + 1), by omega, rfl, hlt, h⟩, fun x H'' hy => ?_⟩
    obtain ⟨Hs3', e3', g3', r3'⟩ := w2 x H'' hy
    rw [List.drop_eq_getElem_cons hlt] at hgo
    unfold loopGo at hgo
    obtain ⟨Hs3, e3, r2', ls, _⟩ := bk ρ2 Hs3' stI H'' [ds[i]] e3' g3'
    rw [settle_none] at r2'
    have r3 : Rep X.K ρ2 Hs3 ds[i] x := Rep.less _ x (fun b u w => by
      rcases ls b u w with y | ⟨y1, y2⟩ | ⟨y1, y2⟩
      · exact .inl y
      · exact .inr (.inl ⟨y1, by simpa [D.hasLs] using y2⟩)
      · exact .inr (.inr ⟨y1, by simpa [D.hasMs] using y2⟩)) r3'
    cases hf : (bindS ct ds[i] envI).bind fun e1 => execS T n cb e1 stI with
    | none => rw [hf] at hgo; cases hgo
    | some rr =>
      rw [hf] at hgo
      obtain ⟨e1, hb1, hb2⟩ := ob hf
      refine r2'.bind hb1 r3 fun σ3 r4 => ?_
      refine hb n F0 ρ2 Hs3 stI H'' σ3 e1 r4 _ hb2 _ ?_
      obtain ⟨f, e4, s4⟩ := rr
      cases f with
      | nx => exact fun σ5 H5 ρ5 Hs5 e5 r5 => ⟨ρ5, Hs5, e4, s4, (e2.trans e3).trans e5, r5, hgo⟩
      | ct => exact fun σ5 H5 ρ5 Hs5 e5 r5 => ⟨ρ5, Hs5, e4, s4, (e2.trans e3).trans e5, r5, hgo⟩
      | rt d =>
        cases hgo
        exact fun v H5 ρ5 Hs5 e5 g5 rv => kc v H5 ρ5 Hs5 ((e2.trans e3).trans e5) g5 rv
end
end Q

set_option Elab.async false
set_option linter.all false
set_option maxRecDepth 100000
set_option maxHeartbeats 1000000
namespace Q
open PySem PySem.Spec PyProof.Rows L2
section
variable {X : Cx} {T : Tab} {k : Nat}
theorem loop_noct {f : D → List Sl → Store → RS} : ∀ {ds : List D} {env : List Sl} {st : Store} {res : Fl × List Sl × Store}, loopGo f ds env st = some res → ∀ e s, res ≠ (.ct, e, s)
  | [], env, st, res, h, e, s => by cases h; exact fun z => by cases z
  | d :: ds, env, st, res, h, e, s => by
    unfold loopGo at h
    split at h
    · cases h; exact fun z => by cases z
    · exact loop_noct h e s
    · exact loop_noct h e s
    · cases h
/-- what a loop walks stays as it is -/
theorem SR.freeze {K : PySem.W.Frag} {F0 Hs H : Hp} {ρ : List Addr} {st : Store} {env : List Sl} {σ : L2.St} (r : SR K F0 ρ Hs st H env σ) (m : List Nat) (ds : List D) : ∃ Hs', Ext ρ Hs ρ Hs' ∧ SR K F0 ρ Hs' st H (settle m ds env) σ := by
  obtain ⟨F1, Hs1, g1, _, bk, x1⟩ := r.lend m
  obtain ⟨Hs', e2, r2, _⟩ := bk ρ Hs1 st H ds (Ext.refl _ _) g1
  exact ⟨Hs', e2, r2⟩
theorem backs_both (o : D) : backs o both = false := by cases o <;> rfl
/-- what is lent to an iterator isn't one's own any more -/
theorem not_own {it : CI} {env : List Sl} {i : Nat} {o : D} (h : (settle (varsI it) both env)[i]? = some (Sl.own o)) : i ∉ varsI it := by
  unfold settle at h
  rw [List.getElem?_mapIdx] at h
  obtain ⟨s0, y1, y2⟩ := om h
  cases s0 with
  | un => cases y2
  | val _ => cases y2
  | own o' =>
    intro hm
    have y2 : (if i ∈ varsI it ∧ backs o' both = false then Sl.val o' else Sl.own o') = Sl.own o := y2
    rw [if_pos ⟨hm, backs_both o'⟩] at y2
    cases y2
theorem settle_id {m : List Nat} {ds : List D} {env : List Sl} (h : ∀ (i : Nat) (o : D), env[i]? = some (Sl.own o) → i ∈ m → backs o ds = true) : settle m ds env = env := by
  apply List.ext_getElem?
  intro i
  unfold settle
  rw [List.getElem?_mapIdx]
  cases e : env[i]? with
  | none => rfl
  | some s =>
    cases s with
    | own o =>
      show some (if i ∈ m ∧ backs o ds = false then Sl.val o else Sl.own o) = some (Sl.own o)
      rw [if_neg]
      rintro ⟨z1, z2⟩
      rw [h i o e z1] at z2
      cases z2
    | _ => rfl
theorem SR.backs {K : PySem.W.Frag} {F0 Hs H : Hp} {ρ : List Addr} {st : Store} {env : List Sl} {σ : L2.St} (r : SR K F0 ρ Hs st H env σ) {i : Nat} {o : D} (h : env[i]? = some (Sl.own o)) : Q.backs o [] = true := by
  obtain ⟨a, u, _, _, w, _⟩ := r.own i o h
  cases o <;> first | rfl | (cases u <;> exact w.elim)
theorem SR.relock {K : PySem.W.Frag} {F0 Hs H : Hp} {ρ : List Addr} {st : Store} {env : List Sl} {σ : L2.St} {a : Addr} {u w : HO} (r : SR K F0 ρ Hs st H env σ) (hs : Hs a = some u) (ob : Obs Hs (upd Hs a w)) : SR K F0 ρ (upd Hs a w) st (upd H a w) env σ := by
  refine ⟨r.g.both hs, r.len, fun i d q => ?_, fun i d q => ?_, r.inj⟩
  · obtain ⟨v, h1, h2⟩ := r.val i d q
    exact ⟨v, h1, Rep.obs (List.prefix_refl _) ob d v h2⟩
  · obtain ⟨b, v, h1, h2, h3, h4, h5, h6⟩ := r.own i d q
    have ne : b ≠ a := fun z => by subst z; rw [hs] at h4; cases h4
    refine ⟨b, v, h1, by rw [upd_ne ne]; exact h2, ?_, by rw [upd_ne ne]; exact h4, h5, h6⟩
    cases d with
    | lst xs => cases v with
      | lst vs => exact RepL.obs (List.prefix_refl _) ob _ _ h3
      | _ => exact h3.elim
    | dK ks xs => cases v with
      | dK kvs => obtain ⟨vs, z1, z2, z3⟩ := h3; exact ⟨vs, z1, z2, RepL.obs (List.prefix_refl _) ob _ _ z3⟩
      | _ => exact h3.elim
    | dT ks xs => cases v with
      | dT kvs => obtain ⟨vs, z1, z2, z3⟩ := h3; exact ⟨vs, z1, z2, RepL.obs (List.prefix_refl _) ob _ _ z3⟩
      | _ => exact h3.elim
    | inst q c ns xs => cases v with
      | ins C dx fs => obtain ⟨z0, z00, vs, z1, z2, z3⟩ := h3; exact ⟨z0, z00, vs, z1, z2, RepL.obs (List.prefix_refl _) ob _ _ z3⟩
      | _ => exact h3.elim
    | _ => exact h3.elim
/-- a for whose dict (if it walks one) is locked -/
theorem for_run {tg iter : Expr} {body : List Stmt} {ct : CT} {ci : CI} {cb : CS} {pos : Pos} {n : Nat} (o : Ok X k T) (hx : X.xe = fun _ _ => False) (hi : SndI X T tg iter ci) (hg : PG X tg (tgR X.K ct)) (hb : SndSs X T body cb) (hf : ∀ x, foldedSetIterable iter X.env x = pure x)
    {F0 Hs H : Hp} {ρ : List Addr} {st : Store} {env : List Sl} {σ : L2.St} (r : SR X.K F0 ρ Hs st H env σ) (hown : ∀ (i : Nat) (oo : D), env[i]? = some (Sl.own oo) → isRng ci = false → i ∉ varsI ci) (lk : LockOk Hs σ (view (varsI ci) env) ci)
    {ds : List D} {st1 : Store} (q : evalI T ci (view (varsI ci) env) st = some (ds, st1)) {res : Fl × List Sl × Store} (he : loopGo (fun d e s => (bindS ct d e).bind fun e1 => execS T n cb e1 s) ds env st1 = some res) {Dn : Ends} (kc : ContS X.K F0 ρ Hs res Dn) :
    EvS X (.For tg iter body [] pos) Dn σ H := by
  refine EvS.of (ps_for (by rw [hx]; exact PassesOwn.never) o.calm pi_ev hg pss_ev hf) ?_
  obtain ⟨F1, Hs1, g1, ev1, bk, x1⟩ := r.lend (varsI ci)
  have lk1 : LockOk Hs1 σ (view (varsI ci) env) ci := by
    cases ci with
    | ex e =>
      cases e with
      | var i =>
        intro d h1 h2
        obtain ⟨a, oo, u, w1, w2⟩ := lk d h1 h2
        exact ⟨a, oo, u, w1, x1.sub _ _ w2⟩
      | _ => trivial
    | _ => trivial
  refine hi F1 ρ Hs1 st H σ _ g1 ev1 lk1 ds st1 q _ fun J H' ρ' Hs1' e1 g' wd wr _ => ?_
  cases hr : isRng ci with
  | true =>
    obtain ⟨Hs', e2, r2, _⟩ := bk ρ' Hs1' st1 H' [] e1 g'
    rw [settle_id fun i oo h _ => r.backs h] at r2
    exact for_core (tg := tg) hb r2 (wr hr ρ' Hs') he (kc.mono e2) (loop_noct he)
  | false =>
    obtain ⟨Hs', e2, r2, ls, _⟩ := bk ρ' Hs1' st1 H' both e1 g'
    rw [settle_id fun i oo h hm => absurd hm (hown i oo h hr)] at r2
    have sb : Sub Hs1' Hs' := fun b u w => by
      rcases ls b u w with y | ⟨_, y⟩ | ⟨_, y⟩
      · exact y
      · cases y
      · cases y
    refine for_core (tg := tg) hb r2 (fun F ρ2 Hs2 st2 H2 i ex gg => wd F ρ2 Hs2 st2 H2 i ⟨ex.pre, sb.trans ex.sub⟩ gg) he (kc.mono e2) (loop_noct he)
theorem snd_loop {tg iter : Expr} {body : List Stmt} {ct : CT} {ci : CI} {cb : CS} {pos : Pos} (o : Ok X k T) (hx : X.xe = fun _ _ => False) (hi : SndI X T tg iter ci) (hg : PG X tg (tgR X.K ct)) (hb : SndSs X T body cb) (hf : ∀ x, foldedSetIterable iter X.env x = pure x) :
    SndS X T (.For tg iter body [] pos) (.loop ct ci cb) := by
  intro n F0 ρ Hs st H σ env r res he Dn kc
  unfold execS at he
  obtain ⟨⟨ds, st1⟩, q, he⟩ := ob he
  obtain ⟨Hs1, e1, r1⟩ := r.freeze (varsI ci) (if isRng ci then [] else both)
  have hown : ∀ (i : Nat) (oo : D), (freezeI ci env)[i]? = some (Sl.own oo) → isRng ci = false → i ∉ varsI ci := fun i oo h hr => by
    unfold freezeI at h
    rw [hr] at h
    exact not_own h
  obtain ⟨F1, Hs2, g2, ev2, _, x2⟩ := r1.lend (varsI ci)
  rcases lock_cases (X := X) ci ev2 with lk | ⟨i, d, a, u, rfl, h1, h2, h3, h4, h5⟩
  · refine for_run o hx hi hg hb hf r1 hown ?_ q he (kc.mono e1)
    cases ci with
    | ex e =>
      cases e with
      | var i =>
        intro d h1 h2
        obtain ⟨a, oo, u, w1, w2⟩ := lk d h1 h2
        refine ⟨a, oo, u, w1, ?_⟩
        unfold view at h1
        rw [List.getElem?_mapIdx] at h1
        obtain ⟨s0, y1, y2⟩ := om h1
        cases s0 with
        | un => cases y2
        | val d' =>
          cases y2
          obtain ⟨v, z1, z2⟩ := r1.val i d y1
          rw [w1] at z1
          cases z1
          cases d with
          | dK ks xs =>
            obtain ⟨p, vs, hp, _, z3, _⟩ := Rep.dK.mp z2
            cases hp
            rcases z3 with z3 | ⟨_, o2, z3⟩
            · have := x2.sub _ _ z3; rw [w2] at this; cases this
            · have := x2.sub _ _ z3; rw [w2] at this; cases this; exact z3
          | dT ks xs =>
            obtain ⟨p, vs, hp, _, z3, _⟩ := Rep.dT.mp z2
            cases hp
            rcases z3 with z3 | ⟨_, o2, z3⟩
            · have := x2.sub _ _ z3; rw [w2] at this; cases this
            · have := x2.sub _ _ z3; rw [w2] at this; cases this; exact z3
          | _ => cases h2
        | own d' => exact absurd (show i ∈ varsI (.ex (.var i)) by simp [varsI, vars]) (hown i d' y1 rfl)
      | _ => trivial
    | _ => trivial
  · -- the dict stands in a slot that isn't one's own
    have hval : ∃ d', (freezeI (.ex (.var i)) env)[i]? = some (Sl.val d') := by
      unfold view at h1
      rw [List.getElem?_mapIdx] at h1
      obtain ⟨s0, y1, y2⟩ := om h1
      cases s0 with
      | un => cases y2
      | val d' => exact ⟨d', y1⟩
      | own d' => exact absurd (show i ∈ varsI (.ex (.var i)) by simp [varsI, vars]) (hown i d' y1 rfl)
    have h1v : (freezeI (.ex (.var i)) env)[i]? = some (Sl.val d) := by
      obtain ⟨d', hv⟩ := hval
      have h1' := h1
      unfold view at h1'
      rw [List.getElem?_mapIdx] at h1'
      rw [show (settle (varsI (.ex (.var i))) (if isRng (.ex (.var i)) = true then [] else both) env)[i]? = some (Sl.val d') from hv] at h1'
      cases h1'
      exact hv
    have hs1 : Hs1 a = some u := by
      obtain ⟨v, z1, z2⟩ := r1.val i d h1v
      rw [h2] at z1
      cases z1
      cases d with
      | dK ks xs =>
        obtain ⟨p, vs, hp, _, z3, _⟩ := Rep.dK.mp z2
        cases hp
        rcases z3 with z3 | ⟨_, o2, z3⟩
        · have := x2.sub _ _ z3; rw [h3] at this; cases this; exact z3
        · have := x2.sub _ _ z3; rw [h3] at this; cases this; exact h4.elim
      | dT ks xs =>
        obtain ⟨p, vs, hp, _, z3, _⟩ := Rep.dT.mp z2
        cases hp
        rcases z3 with z3 | ⟨_, o2, z3⟩
        · have := x2.sub _ _ z3; rw [h3] at this; cases this; exact z3
        · have := x2.sub _ _ z3; rw [h3] at this; cases this; exact h4.elim
      | _ => cases h5
    refine lockS r1.g hs1 h4 fun od HL gL eL => ?_
    subst eL
    refine for_run o hx hi hg hb hf (r1.relock hs1 (Obs.lock hs1 h4)) hown ?_ q he ?_
    · intro d' hd' _
      exact ⟨a, od, u, h2, upd_same⟩
    · obtain ⟨f, env', st'⟩ := res
      cases f with
      | nx =>
        intro σ' H' ρ' Hs' e r'
        have hf' : Hs' a = some (.frz od u) := e.sub _ _ upd_same
        exact ⟨r'.g.frz hf', kc σ' _ ρ' _ (e1.trans (ext_unlock hs1 e)) (r'.relock hf' (Obs.unlock hf' h4))⟩
      | ct =>
        intro σ' H' ρ' Hs' e r'
        have hf' : Hs' a = some (.frz od u) := e.sub _ _ upd_same
        exact ⟨r'.g.frz hf', kc σ' _ ρ' _ (e1.trans (ext_unlock hs1 e)) (r'.relock hf' (Obs.unlock hf' h4))⟩
      | rt dd =>
        intro v H' ρ' Hs' e g' rv
        have hf' : Hs' a = some (.frz od u) := e.sub _ _ upd_same
        exact ⟨g'.frz hf', kc v _ ρ' _ (e1.trans (ext_unlock hs1 e)) (g'.both hf') (Rep.obs (List.prefix_refl _) (Obs.unlock hf' h4) _ _ rv)⟩
theorem while_noct {t : List Sl → Store → Option (Bool × List Sl × Store)} {f : List Sl → Store → RS} : ∀ {n : Nat} {env : List Sl} {st : Store} {res : Fl × List Sl × Store}, whileGo t f n env st = some res → ∀ e s, res ≠ (.ct, e, s)
  | 0, env, st, res, h, e, s => by cases h
  | n + 1, env, st, res, h, e, s => by
    unfold whileGo at h
    split at h
    · cases h; exact fun z => by cases z
    · split at h
      · cases h; exact fun z => by cases z
      · exact while_noct h e s
      · exact while_noct h e s
      · cases h
    · cases h
theorem snd_whl {t : Expr} {c : CE} {body : List Stmt} {cb : CS} {pos : Pos} (hx : X.xe = fun _ _ => False) (ht : SndT X T t c) (hb : SndSs X T body cb) : SndS X T (.While t body [] pos) (.whl c cb) := by
  intro n F0 ρ Hs st H σ env r res he Dn kc
  unfold execS at he
  refine EvS.of (ps_while (by rw [hx]; exact PassesOwn.never) pt_ev pss_ev) ?_
  refine ⟨fun m σ' H' => ∃ ρ2 Hs2 envI stI, Ext ρ Hs ρ2 Hs2 ∧ SR X.K F0 ρ2 Hs2 stI H' envI σ' ∧ whileGo (testS T c) (fun e s => execS T n cb e s) m envI stI = some res, ⟨n, ρ, Hs, env, st, Ext.refl _ _, r, he⟩, ?_⟩
  rintro m σ' H' ⟨ρ2, Hs2, envI, stI, e2, r2, hgo⟩
  cases m with
  | zero => cases hgo
  | succ m =>
    unfold whileGo at hgo
    cases hq : testS T c envI stI with
    | none => rw [hq] at hgo; cases hgo
    | some x =>
      obtain ⟨b, env3, st3⟩ := x
      rw [hq] at hgo
      refine r2.test ht hq fun H3 ρ3 Hs3 e3 r3 => ?_
      cases b with
      | false =>
        cases hgo
        exact iteF (kc σ' H3 ρ3 Hs3 (e2.trans e3) r3)
      | true =>
        dsimp only at hgo
        refine iteT ⟨fun σ'' H'' => ∃ ρ2 Hs2 envI stI, Ext ρ Hs ρ2 Hs2 ∧ SR X.K F0 ρ2 Hs2 stI H'' envI σ'' ∧ whileGo (testS T c) (fun e s => execS T n cb e s) m envI stI = some res, fun σ'' H'' h => ⟨m, Nat.lt_succ_self _, h⟩, ?_⟩
        cases hq2 : execS T n cb env3 st3 with
        | none => rw [hq2] at hgo; cases hgo
        | some rr =>
          rw [hq2] at hgo
          refine hb n F0 ρ3 Hs3 st3 H3 σ' env3 r3 _ hq2 _ ?_
          obtain ⟨f, e4, s4⟩ := rr
          cases f with
          | nx => exact fun σ5 H5 ρ5 Hs5 e5 r5 => ⟨ρ5, Hs5, e4, s4, (e2.trans e3).trans e5, r5, hgo⟩
          | ct => exact fun σ5 H5 ρ5 Hs5 e5 r5 => ⟨ρ5, Hs5, e4, s4, (e2.trans e3).trans e5, r5, hgo⟩
          | rt d =>
            cases hgo
            exact fun v H5 ρ5 Hs5 e5 g5 rv => kc v H5 ρ5 Hs5 ((e2.trans e3).trans e5) g5 rv
end
end Q

set_option Elab.async false
set_option linter.all false
set_option maxRecDepth 100000
set_option maxHeartbeats 1000000
namespace Q
open PySem PySem.Spec PyProof.Rows L2
section
variable {X : Cx} {T : Tab} {k : Nat}
def rSetA (X : Cx) : TSet := fun o i v H Q => ∃ t, PSet X t ∧ t o i v H Q
theorem setAny : PSet X (rSetA X) := by
  intro pins s σ H o i v ov iv u Q I ro ri rv ⟨t, ht, q⟩
  exact ht pins s σ H o i v ov iv u Q I ro ri rv q
/-- a dict's pairs behind a store -/
theorem putK_rep {K : PySem.W.Frag} {ρ : List Addr} {Hs : Hp} {κ : Type} [DecidableEq κ] {k : κ} {d : D} {v : V} (hd : Rep K ρ Hs d v) : ∀ {ks : List κ} {xs : List D} {vs : List V}, ks.length = xs.length → RepL K ρ Hs xs vs →
    ∃ us, putK (ks.zip vs) k v = (putKs ks k).zip us ∧ (putKs ks k).length = (putXs ks xs k d).length ∧ RepL K ρ Hs (putXs ks xs k d) us := by
  intro ks xs vs hl r
  have hany : ((ks.zip vs).any fun kv => decide (kv.1 = k)) = decide (k ∈ ks) := by
    have hl2 : ks.length = vs.length := by rw [hl, r.length]
    clear r hl
    induction ks generalizing vs with
    | nil => simp
    | cons a ks ih =>
      cases vs with
      | nil => cases hl2
      | cons w vs =>
        rw [List.zip_cons_cons, List.any_cons, ih (by simpa using hl2)]
        by_cases e : a = k
        · simp [e]
        · simp [e, Ne.symm e]
  unfold putK putKs putXs
  rw [hany]
  by_cases hk : k ∈ ks
  · rw [if_pos (decide_eq_true hk), if_pos hk, if_pos hk]
    clear hany hk
    induction ks generalizing xs vs with
    | nil => exact ⟨[], rfl, rfl, .nil⟩
    | cons a ks ih =>
      cases xs with
      | nil => cases hl
      | cons x xs =>
        obtain ⟨w, vr, rfl, h1, h2⟩ := RepL.cons_iff.mp r
        obtain ⟨us, i1, i2, i3⟩ := ih (by simpa using hl) h2
        refine ⟨(if a = k then v else w) :: us, ?_, ?_, ?_⟩
        · rw [List.zip_cons_cons, List.map_cons, i1, List.zip_cons_cons]
          by_cases e : a = k <;> simp [e]
        · rw [List.zipWith_cons_cons, List.length_cons, List.length_cons, i2]
        · rw [List.zipWith_cons_cons]
          by_cases e : a = k
          · rw [if_pos e, if_pos e]; exact .cons hd i3
          · rw [if_neg e, if_neg e]; exact .cons h1 i3
  · rw [if_neg (by simp [hk]), if_neg hk, if_neg hk]
    refine ⟨vs ++ [v], ?_, by rw [List.length_append, List.length_append, hl]; rfl, r.append (.cons hd .nil)⟩
    rw [List.zip_append (by rw [hl, r.length])]; rfl
/-- a cell of the store is written -/
theorem SR.cellPut {K : PySem.W.Frag} {F0 Hs H : Hp} {ρ : List Addr} {st : Store} {env : List Sl} {σ : L2.St} {c : Nat} {a : Addr} {ns ms : List Int} (r : SR K F0 ρ Hs st H env σ) (h1 : ρ[c]? = some a) (h2 : st[c]? = some ns) : SR K F0 ρ Hs (st.set c ms) (upd H a (.lst (ms.map V.int))) env σ := by
  have ha : a ∈ ρ := List.mem_of_getElem? h1
  obtain ⟨a', z1, z2, z3⟩ := r.g.cell c ns h2
  rw [h1] at z1
  cases z1
  refine ⟨⟨fun b u e => ?_, fun b u e => ?_, r.g.nd, by rw [List.length_set]; exact r.g.len, fun j q e => ?_⟩, r.len, r.val, fun j d q => ?_, r.inj⟩
  · rw [upd_ne (fun z => by subst z; rw [z3] at e; cases e)]; exact r.g.le b u e
  · obtain ⟨w1, w2, w3, w4⟩ := r.g.foe b u e
    have nb : b ≠ a := fun z => by subst z; exact w3 ha
    exact ⟨by rw [upd_ne nb]; exact w1, w2, w3, w4⟩
  · rcases set_get e with ⟨rfl, h, _⟩ | ⟨hne, h⟩
    · subst h; exact ⟨a, h1, upd_same, z3⟩
    · obtain ⟨b, w1, w2, w3⟩ := r.g.cell j q h
      have nb : b ≠ a := fun z => by
        subst z
        have l1 := (List.getElem?_eq_some_iff.mp h1)
        have l2 := (List.getElem?_eq_some_iff.mp w1)
        exact hne ((List.getElem_inj r.g.nd).mp (l1.2.trans l2.2.symm))
      exact ⟨b, w1, by rw [upd_ne nb]; exact w2, w3⟩
  · obtain ⟨b, u, w1, w2, w3, w4, w5, w6⟩ := r.own j d q
    have nb : b ≠ a := fun z => by subst z; exact w6 ha
    exact ⟨b, u, w1, by rw [upd_ne nb]; exact w2, w3, w4, w5, w6⟩
theorem set_map_int (ns : List Int) (q : Nat) (z : Int) : (ns.set q z).map V.int = (ns.map V.int).set q (V.int z) := List.map_set
theorem putAt_ok {F0 Hs H : Hp} {ρ : List Addr} {st : Store} {env env' : List Sl} {σ : L2.St} {i : Nat} {kd d : D} {st' : Store} {kv v : V} {Q : Hp → Prop} (o : Ok X k T) (r : SR X.K F0 ρ Hs st H env σ) (hk : Rep X.K ρ Hs kd kv) (hd : Rep X.K ρ Hs d v) (e : putAt i kd d env st = some (env', st'))
    (kq : ∀ H', SR X.K F0 ρ Hs st' H' env' σ → Q H') : ∃ w, σ[i]? = some (some w) ∧ rSetA X w kv v H Q := by
  unfold putAt at e
  have hu : X.A.units + 1 < cLine := by have := o.units; omega
  split at e
  · rename_i xs hown
    obtain ⟨a, u, w1, w2, w3, _⟩ := r.own i _ hown
    cases u with
    | lst vs =>
      have w3 : RepL X.K ρ Hs xs vs := w3
      cases kd with
      | int j =>
        obtain ⟨q, h1, h2⟩ := om e
        cases h2
        cases Rep.int.mp hk
        exact ⟨_, w1, _, L2.set_list, a, vs, j, q, rfl, rfl, w2, by rw [← w3.length]; exact h1, kq _ (r.write hown w1 (RepL.set hd q w3 : OwnO X.K ρ Hs (.lst (xs.set q d)) (.lst (vs.set q v))))⟩
      | _ => cases e
    | _ => exact w3.elim
  · rename_i oo hnl hown
    obtain ⟨o', h1, h2⟩ := ob e
    split at h2
    · rename_i hlen
      cases h2
      obtain ⟨a, u, w1, w2, w3, _⟩ := r.own i _ hown
      cases oo with
      | dK ks xs =>
        cases u with
        | dK kvs =>
          obtain ⟨vs, z1, rfl, z3⟩ := w3
          obtain ⟨q, y1, y2⟩ := om (show (keyOf kd).map _ = some o' from h1)
          subst y2
          obtain ⟨us, p1, p2, p3⟩ := putK_rep (K := X.K) (k := q) hd z1 z3
          refine ⟨_, w1, _, set_dict hu, a, _, rfl, .inl ⟨_, q, w2, keyOf_rep y1 hk, ?_, rfl⟩, kq _ (r.write hown w1 ?_)⟩
          · rw [List.length_zip, ← z3.length, ← z1, Nat.min_self, z1]; exact hlen
          · rw [p1]; exact ⟨us, p2, rfl, p3⟩
        | _ => exact w3.elim
      | dT ks xs =>
        cases u with
        | dT kvs =>
          obtain ⟨vs, z1, rfl, z3⟩ := w3
          cases kd with
          | tup ys =>
            obtain ⟨q, y1, y2⟩ := om (show (keysOf ys).map _ = some o' from h1)
            subst y2
            obtain ⟨b, ws, rfl, y3, y4⟩ := Rep.tup.mp hk
            obtain ⟨us, p1, p2, p3⟩ := putK_rep (K := X.K) (k := q) hd z1 z3
            refine ⟨_, w1, _, set_dict hu, a, _, rfl, .inr ⟨_, q, b, w2, rfl, by rw [← keysOf_rep y1 y4]; exact r.g.tup y3, ?_, rfl⟩, kq _ (r.write hown w1 ?_)⟩
            · rw [List.length_zip, ← z3.length, ← z1, Nat.min_self, z1]; exact hlen
            · rw [p1]; exact ⟨us, p2, rfl, p3⟩
          | _ => cases h1
        | _ => exact w3.elim
      | _ => cases h1
    · cases h2
  · rename_i c hval
    split at e
    · rename_i j z ns hs
      obtain ⟨q, h1, h2⟩ := om e
      cases h2
      obtain ⟨w, w1, w2⟩ := r.val i _ hval
      obtain ⟨a, w3, rfl⟩ := Rep.cell.mp w2
      obtain ⟨a', z1, z2, z3⟩ := r.g.cell c ns hs
      rw [w3] at z1
      cases z1
      cases Rep.int.mp hk
      cases Rep.int.mp hd
      refine ⟨_, w1, _, L2.set_list, a, _, j, q, rfl, rfl, z2, by rw [List.length_map]; exact h1, kq _ ?_⟩
      rw [← set_map_int]
      exact r.cellPut w3 hs
    · cases e
  · cases e
theorem putStep_ok {x : Str} {i : Nat} {kx : Expr} {ck : CE} {px : Pos} {F0 Hs H : Hp} {ρ : List Addr} {st : Store} {env env' : List Sl} {σ : L2.St} {d : D} {st' : Store} {v : V} {Q : L2.St → Hp → Prop} (o : Ok X k T) (hi : X.N[i]? = some x) (hv : Vis X.env.scope x) (hk : SndE X T kx ck)
    (r : SR X.K F0 ρ Hs st H env σ) (hd : Rep X.K ρ Hs d v) (e : putStep T i ck d env st = some (env', st')) (kq : ∀ H' ρ' Hs', Ext ρ Hs ρ' Hs' → SR X.K F0 ρ' Hs' st' H' env' σ → Q σ H') : gSub (tVar i) (Ev X kx) (rSetA X) v σ H Q := by
  unfold putStep at e
  obtain ⟨⟨y1, y2⟩, q, e⟩ := ob e
  -- the slot's value
  have hw : ∃ w, σ[i]? = some (some w) := by
    unfold putAt at e
    have look : ∀ s, (settle (vars ck) [y1] env)[i]? = some s → ∃ s0, env[i]? = some s0 ∧ settleS (vars ck) [y1] i s0 = s := fun s q => by
      unfold settle at q
      rw [List.getElem?_mapIdx] at q
      exact om q
    have any : ∀ s, (settle (vars ck) [y1] env)[i]? = some s → s ≠ .un → ∃ w, σ[i]? = some (some w) := fun s q hn => by
      obtain ⟨s0, z1, z2⟩ := look s q
      cases s0 with
      | un => exact absurd z2.symm hn
      | val d0 => obtain ⟨w, w1, _⟩ := r.val i d0 z1; exact ⟨w, w1⟩
      | own d0 => obtain ⟨a, u, w1, _⟩ := r.own i d0 z1; exact ⟨_, w1⟩
    split at e
    · rename_i h; exact any _ h (by intro z; cases z)
    · rename_i h; exact any _ h (by intro z; cases z)
    · rename_i h; exact any _ h (by intro z; cases z)
    · cases e
  obtain ⟨w, hw⟩ := hw
  refine ⟨w, hw, ?_⟩
  refine r.eval hk q [y1] fun kv H' ρ' Hs' e1 r1 rv _ _ => ?_
  obtain ⟨w', hw', t⟩ := putAt_ok (Q := fun H3 => Q σ H3) o r1 (rv rfl) (e1.rep hd) e fun H3 r3 => kq H3 ρ' Hs' e1 r3
  rw [hw] at hw'
  cases hw'
  exact t
theorem snd_put {x : Str} {i : Nat} {kx e : Expr} {ck c : CE} {px ps pos : Pos} (o : Ok X k T) (hi : X.N[i]? = some x) (hv : Vis X.env.scope x) (hd : (x == ("__debug__" : Str)) = false) (hcd : (x == ("__classdict__" : Str)) = false) (hk : SndE X T kx ck) (h : SndE X T e c) (hn : notSlice kx = true) :
    SndS X T (.Assign [.Subscript (.Name x px) kx ps] e pos) (.put i ck c) := by
  intro n F0 ρ Hs st H σ env r res he Dn kc
  unfold execS at he
  obtain ⟨⟨x1, x2⟩, q, he⟩ := ob he
  obtain ⟨⟨env', st'⟩, q2, he⟩ := om he
  cases he
  refine EvS.of (ps_asg pe_ev (pg_sub (pe_var hi hv hd hcd) pe_ev setAny (by intro v; cases kx <;> first | rfl | cases hn)) (by unfold swapsWithSole swapsWith; cases e <;> rfl) (by unfold swappedStores; cases e <;> rfl) rfl) ?_
  refine r.eval h q [x1] fun v H' ρ' Hs' e1 r1 rv _ _ => ?_
  exact putStep_ok (px := px) o hi hv hk r1 (rv rfl) q2 fun H2 ρ2 Hs2 e2 r2 => kc σ H2 ρ2 Hs2 (e1.trans e2) r2
end
end Q

set_option Elab.async false
set_option linter.all false
set_option maxRecDepth 100000
set_option maxHeartbeats 1000000
namespace Q
open PySem PySem.Spec PyProof.Rows L2
section
variable {X : Cx} {T : Tab} {k : Nat}
theorem putF_new {m : Str} {v : V} : ∀ {ns : List Str} {vs : List V}, ns.length = vs.length → m ∉ ns → putF m v (ns.zip vs) = (ns ++ [m]).zip (vs ++ [v])
  | [], [], _, _ => rfl
  | n :: ns, u :: vs, hl, hm => by
    simp only [List.mem_cons, not_or] at hm
    rw [List.zip_cons_cons, putF, if_neg (Ne.symm hm.1), putF_new (by simpa using hl) hm.2]
    rfl
  | [], _ :: _, hl, _ => by cases hl
  | _ :: _, [], hl, _ => by cases hl
/-- self.m = e, within __init__ -/
theorem snd_setA {x m : Str} {i : Nat} {e : Expr} {c : CE} {px p' pos : Pos} (o : Ok X k T) (hi : X.N[i]? = some x) (hv : Vis X.env.scope x) (hd : (x == ("__debug__" : Str)) = false) (hcd : (x == ("__classdict__" : Str)) = false) (h : SndE X T e c) :
    SndS X T (.Assign [.Attribute (.Name x px) m p'] e pos) (.setA i m c) := by
  intro n F0 ρ Hs st H σ env r res he Dn kc
  unfold execS at he
  obtain ⟨⟨x1, x2⟩, q, he⟩ := ob he
  dsimp only at he
  split at he
  · rename_i dx cl ns xs hs
    split at he
    · rename_i hc
      cases he
      obtain ⟨c1, c2⟩ := o.fld cl m hc.1
      refine EvS.of (ps_fld (pe_var hi hv hd hcd) pe_ev (by unfold swapsWith; cases e <;> rfl)) ?_
      refine r.eval h q [x1] fun v H' ρ' Hs' e1 r1 rv _ _ => ?_
      obtain ⟨a, u, w1, w2, w3, w4⟩ := r1.own i _ hs
      cases u with
      | ins C dx' fs =>
        obtain ⟨rfl, rfl, vs, z1, rfl, z3⟩ := w3
        have hl : ns.length = vs.length := by rw [z1, z3.length]
        refine ⟨.ref a, w1, a, _, dx', _, rfl, w2, c1, c2, by rw [List.length_zip, hl, Nat.min_self, ← hl]; exact hc.2.2, ?_⟩
        rw [putF_new hl hc.2.1]
        refine kc σ _ ρ' Hs' e1 (r1.write hs w1 ⟨rfl, rfl, vs ++ [v], by rw [List.length_append, List.length_append, z1]; rfl, rfl, z3.append (.cons (rv rfl) .nil)⟩)
      | _ => exact w3.elim
    · cases he
  · cases he
/-! ### several targets, names and places -/
def TGsOk (X : Cx) (T : Tab) (es : List Expr) (ks : List (Nat × Option CE)) : Prop := ∃ gs : TGs, PGs X es gs ∧ (assignEach es X.env).length = ks.length ∧ (assignEach es X.env).findIdx? (·.1) = none ∧
  ∀ F0 ρ Hs st H σ env ds vs env' st' (Q : L2.St → Hp → Prop), SR X.K F0 ρ Hs st H env σ → RepL X.K ρ Hs ds vs → putSteps T ks ds env st = some (env', st') → (∀ σ' H' ρ' Hs', Ext ρ Hs ρ' Hs' → SR X.K F0 ρ' Hs' st' H' env' σ' → Q σ' H') → gs vs σ H Q
theorem tgs_nil : TGsOk X T [] [] := by
  refine ⟨gNil, pgs_nil, rfl, rfl, fun F0 ρ Hs st H σ env ds vs env' st' Q r rv e kq => ?_⟩
  cases ds with
  | nil =>
    cases e
    rw [RepL.nil_iff] at rv
    exact ⟨rv, kq σ H ρ Hs (Ext.refl _ _) r⟩
  | cons d ds => cases e
theorem tgs_name {x : Str} {p : Pos} {i : Nat} {es : List Expr} {ks : List (Nat × Option CE)} (h : PG X (.Name x p) (gName i)) (t : TGsOk X T es ks) : TGsOk X T (.Name x p :: es) ((i, none) :: ks) := by
  obtain ⟨gs, h1, h2, h3, h4⟩ := t
  refine ⟨gCons (gName i) gs, pgs_cons h h1 rfl, ?_, ?_, fun F0 ρ Hs st H σ env ds vs env' st' Q r rv e kq => ?_⟩
  · show (assignEach es X.env).length + 1 = ks.length + 1
    rw [h2]
  · show ((false, assign (.Name x p) X.env) :: assignEach es X.env).findIdx? (·.1) = none
    rw [List.findIdx?_cons, h3]; rfl
  · cases ds with
    | nil => cases e
    | cons d ds =>
      obtain ⟨v, vs', rfl, hx, rv⟩ := RepL.cons_iff.mp rv
      exact ⟨v, vs', rfl, h4 F0 ρ Hs st H _ _ ds vs' env' st' Q (r.setVal i hx) rv e kq⟩
theorem tgs_sub {x : Str} {px ps : Pos} {i : Nat} {kx : Expr} {ck : CE} {es : List Expr} {ks : List (Nat × Option CE)} (o : Ok X k T) (hi : X.N[i]? = some x) (hv : Vis X.env.scope x) (hd : (x == ("__debug__" : Str)) = false) (hcd : (x == ("__classdict__" : Str)) = false) (hk : SndE X T kx ck) (hn : notSlice kx = true) (t : TGsOk X T es ks) :
    TGsOk X T (.Subscript (.Name x px) kx ps :: es) ((i, some ck) :: ks) := by
  obtain ⟨gs, h1, h2, h3, h4⟩ := t
  refine ⟨gCons (gSub (tVar i) (Ev X kx) (rSetA X)) gs, pgs_cons (pg_sub (pe_var hi hv hd hcd) pe_ev setAny (by intro v; cases kx <;> first | rfl | cases hn)) h1 rfl, ?_, ?_, fun F0 ρ Hs st H σ env ds vs env' st' Q r rv e kq => ?_⟩
  · show (assignEach es X.env).length + 1 = ks.length + 1
    rw [h2]
  · show ((false, assign (.Subscript (.Name x px) kx ps) X.env) :: assignEach es X.env).findIdx? (·.1) = none
    rw [List.findIdx?_cons, h3]; rfl
  · cases ds with
    | nil => cases e
    | cons d ds =>
      obtain ⟨v, vs', rfl, hx, rv⟩ := RepL.cons_iff.mp rv
      obtain ⟨⟨env1, st1⟩, q1, e⟩ := ob (show (putStep T i ck d env st).bind _ = some (env', st') from e)
      refine ⟨v, vs', rfl, putStep_ok (px := px) o hi hv hk r hx q1 fun H1 ρ1 Hs1 e1 r1 => ?_⟩
      exact h4 F0 ρ1 Hs1 st1 H1 σ env1 ds vs' env' st' Q r1 (e1.repL rv) e fun σ' H' ρ' Hs' e2 r2 => kq σ' H' ρ' Hs' (e1.trans e2) r2
theorem sndP_vals {es : List Expr} {cl : CL} (h : SndL X T es cl) : ∀ F1 ρ Hs st H σ env, Glob X.K F1 ρ Hs st H → EnvOk X.K ρ Hs env σ → ∀ ds st', evalL T cl env st = some (ds, st') →
    ∀ Q : List V → Hp → Prop, (∀ vs H' ρ' Hs', Ext ρ Hs ρ' Hs' → Glob X.K F1 ρ' Hs' st' H' → RepL X.K ρ' Hs' ds vs → Q vs H') → EvA X es σ H Q := h
/-- the values of a display -/
theorem SR.evalL' {es : List Expr} {cl : CL} (h : SndL X T es cl) {F0 Hs H : Hp} {ρ : List Addr} {st : Store} {env : List Sl} {σ : L2.St} (r : SR X.K F0 ρ Hs st H env σ) {ds : List D} {st' : Store} (q : evalL T cl (view (varsL cl) env) st = some (ds, st')) {Q : List V → Hp → Prop}
    (k : ∀ vs H' ρ' Hs', Ext ρ Hs ρ' Hs' → SR X.K F0 ρ' Hs' st' H' (settle (varsL cl) ds env) σ → RepL X.K ρ' Hs' ds vs → Q vs H') : EvA X es σ H Q := by
  obtain ⟨F1, Hs1, g1, ev1, bk, _⟩ := r.lend (varsL cl)
  refine h F1 ρ Hs1 st H σ _ g1 ev1 ds st' q _ fun vs H' ρ' Hs1' e1 g' rv => ?_
  obtain ⟨Hs', e2, r2, ls, n1, n2, n3⟩ := bk ρ' Hs1' st' H' ds e1 g'
  exact k vs H' ρ' Hs' e2 r2 (RepL.less ds vs ls rv)
theorem evalL_len' {cl : CL} {env : List (Option D)} {st : Store} {ds : List D} {st' : Store} (h : evalL T cl env st = some (ds, st')) : ds.length = cl.len := evalL_len h
theorem snd_puts {ts es : List Expr} {ks : List (Nat × Option CE)} {cl : CL} {pos pt pt2 : Pos} {kt k2 : Nat} (o : Ok X k T) (h : SndL X T es cl) (t : TGsOk X T ts ks) (hs : swapsWithSole [.Tuple ts kt pt] (.Tuple es k2 pt2) pos.line X.env = pure false) (hw : swappedStores [.Tuple ts kt pt] (.Tuple es k2 pt2) X.env = pure none)
    (h1 : (assignEach [.Tuple ts kt pt] X.env).map (·.2) = [assign (.Tuple ts kt pt) X.env]) (hl : cl.len ≤ 1000) (hkl : ks.length = cl.len) : SndS X T (.Assign [.Tuple ts kt pt] (.Tuple es k2 pt2) pos) (.puts ks cl) := by
  intro n F0 ρ Hs st H σ env r res he Dn kc
  unfold execS at he
  obtain ⟨⟨ds, x2⟩, q, he⟩ := ob he
  obtain ⟨⟨env', st'⟩, q2, he⟩ := om he
  cases he
  obtain ⟨gs, t1, t2, t3, t4⟩ := t
  refine EvS.of (ps_asg (pe_tup pa_ev) (pg_tup o.calm t1 t2 t3) hs hw h1) ?_
  refine r.evalL' h q fun vs H' ρ' Hs' e1 r1 rv => ⟨?_, fun p hp => ?_⟩
  · rw [← rv.length, evalL_len q]
    exact Nat.le_trans hl (by decide)
  · refine ⟨p, vs, rfl, SqT.of upd_same, by rw [← rv.length, evalL_len q, hkl], ?_⟩
    have r2 : SR X.K F0 ρ' Hs' x2 (upd H' p (.tup vs)) (settle (varsL cl) ds env) σ := ⟨r1.g.own hp, r1.len, r1.val, fun j oo qq => by
      obtain ⟨a, u, z1, z2, z3⟩ := r1.own j oo qq
      exact ⟨a, u, z1, by rw [upd_ne (ne_of_none z2 hp)]; exact z2, z3⟩, r1.inj⟩
    exact t4 F0 ρ' Hs' x2 _ σ _ ds vs env' st' _ r2 rv q2 fun σ' H2 ρ2 Hs2 e2 r3 => kc σ' H2 ρ2 Hs2 (e1.trans e2) r3
end
end Q

set_option Elab.async false
set_option linter.all false
set_option maxRecDepth 100000
set_option maxHeartbeats 1000000
namespace Q
open PySem PySem.Spec PyProof.Rows L2
/-! ### from the text to the small language -/
def idx (N : List Str) (x : Str) : Option Nat := N.findIdx? fun y => decide (y = x)
theorem idx_ok {N : List Str} {x : Str} {i : Nat} (h : idx N x = some i) : N[i]? = some x := by
  unfold idx at h
  rw [List.findIdx?_eq_some_iff_getElem] at h
  obtain ⟨h1, h2, _⟩ := h
  rw [List.getElem?_eq_getElem h1, of_decide_eq_true h2]
def okName (x : Str) : Bool := !(x == ("__debug__" : Str)) && !(x == ("__classdict__" : Str))
theorem okName_ok {x : Str} (h : okName x = true) : (x == ("__debug__" : Str)) = false ∧ (x == ("__classdict__" : Str)) = false := by
  unfold okName at h
  rw [Bool.and_eq_true, Bool.not_eq_true', Bool.not_eq_true'] at h
  exact h
def visB (sc : Scope) (x : Str) : Bool := match sc.names.lookup x with
  | some .local => true
  | some .cell => true
  | some .free => true
  | _ => false
def glB (sc : Scope) (x : Str) : Bool := match sc.names.lookup x with
  | some .globalImplicit => true
  | _ => false
def locB (sc : Scope) (x : Str) : Bool := match sc.names.lookup x with
  | some .local => true
  | some .cell => true
  | _ => false
def bltn (x : Str) : Bool := decide (x ∈ bnames ++ bnames2)
/-- the block's own names with their slots -/
def ownOf (N : List Str) (scope : Scope) : List (Str × Nat) := scope.names.filterMap fun p => match p.2 with
  | .local => (idx N p.1).map fun i => (p.1, i)
  | .cell => (idx N p.1).map fun i => (p.1, i)
  | _ => none
def tgNames (sc : Scope) (N : List Str) : List Expr → Option (List Nat)
  | [] => some []
  | .Name x _ :: r => if locB sc x then (match idx N x, tgNames sc N r with
    | some i, some is => some (i :: is)
    | _, _ => none) else none
  | _ :: _ => none
def compT (sc : Scope) (N : List Str) : Expr → Option CT
  | .Name x _ => if locB sc x then (idx N x).map .nm else none
  | .Tuple es _ _ => (tgNames sc N es).map .nms
  | _ => none
def optE {α : Type} (f : Expr → Option α) : Option Expr → Option (Option α)
  | none => some none
  | some e => (f e).map some
def compCO (f : Expr → Option CE) : Option Expr → Option CO
  | none => some .no
  | some e => (f e).map .yes
def compIf (f : Expr → Option CE) : List Expr → Option CO
  | [] => some .no
  | [e] => (f e).map .yes
  | _ => none
def compL (f : Expr → Option CE) : List Expr → Option CL
  | [] => some .nil
  | e :: es => if notStar e then (match f e, compL f es with
    | some c, some r => some (.cons c r)
    | _, _ => none) else none
def isTupleE : Expr → Bool
  | .Tuple _ _ _ => true
  | _ => false
def isNameE : Expr → Bool
  | .Name _ _ => true
  | _ => false
def compEx (f : Expr → Option CE) (e : Expr) : Option CI := match f e with
  | some c => if isVar c && !isNameE e then none else some (.ex c)
  | none => none
/-- what is walked -/
def compI (f : Expr → Option CE) (sc : Scope) (tg : Expr) : Expr → Option CI
  | .Call (.Name x p) [a] [] pos =>
    if x = "range" ∧ glB sc x ∧ notStar a then (f a).map .rng1
    else if x = "enumerate" ∧ glB sc x ∧ notStar a then (if isTupleE tg then (f a).map .enum else none)
    else compEx f (.Call (.Name x p) [a] [] pos)
  | .Call (.Name x p) [a, b] [] pos =>
    if x = "range" ∧ glB sc x ∧ notStar a ∧ notStar b then (f a).bind fun c => (f b).map fun d => .rng2 c d
    else if x = "zip" ∧ glB sc x ∧ notStar a ∧ notStar b then (if isTupleE tg then (f a).bind fun c => (f b).map fun d => .zip c d else none)
    else compEx f (.Call (.Name x p) [a, b] [] pos)
  | .Set _ _ _ => none
  | e => compEx f e
def isSet : Expr → Bool
  | .Call (.Name g _) [b] [] _ => decide (g = "set") && notStar b
  | _ => false
def setArg : Expr → Expr
  | .Call (.Name _ _) [b] [] _ => b
  | e => e
def isCall : Expr → Bool
  | .Call (.Name _ _) _ _ _ => true
  | _ => false
def compE : Nat → Scope → List Str → Expr → Option CE
  | 0, _, _, _ => none
  | n + 1, sc, N, e => match e with
    | .Name x _ => if okName x then (if visB sc x then (idx N x).map .var else if glB sc x then some (.con x) else none) else none
    | .Constant (.int i) _ _ => some (.int i)
    | .Constant (.bool b) _ _ => some (.bl b)
    | .Constant (.str s) _ _ => some (.str s)
    | .Constant .none _ _ => some .non
    | .Tuple es _ _ => (compL (compE n sc N) es).bind fun c => if c.len ≤ 1000 then some (.tup c) else none
    | .List es _ => (compL (compE n sc N) es).bind fun c => if c.len ≤ 1000 then some (.lst c) else none
    | .Dict [] [] _ => some (.dnew false)
    | .Dict [some a] [b] _ => (compE n sc N a).bind fun x => (compE n sc N b).map fun y => .dct x y
    | .BinOp a op b _ => (compE n sc N a).bind fun x => (compE n sc N b).map fun y => .bin op x y
    | .UnaryOp .USub a _ => (compE n sc N a).map .neg
    | .UnaryOp .Not a _ => (compE n sc N a).map .not
    | .Compare a [op] [b] _ => if behindInMarks op b then none else (compE n sc N a).bind fun x => (compE n sc N b).map fun y => .cmp op x y
    | .Compare a [op, op'] [b, c] _ => if lastMarks [op, op'] [b, c] || op == .In || op == .NotIn || op' == .In || op' == .NotIn then none else (compE n sc N a).bind fun x => (compE n sc N b).bind fun y => (compE n sc N c).map fun z => .chain op op' x y z
    | .BoolOp _ [a] _ => compE n sc N a
    | .BoolOp .And (a :: b :: r) pos => (compE n sc N a).bind fun x => (compE n sc N (.BoolOp .And (b :: r) pos)).map fun y => .and x y
    | .BoolOp .Or (a :: b :: r) pos => (compE n sc N a).bind fun x => (compE n sc N (.BoolOp .Or (b :: r) pos)).map fun y => .or x y
    | .IfExp t a b _ => (compE n sc N t).bind fun z => (compE n sc N a).bind fun x => (compE n sc N b).map fun y => .ife z x y
    | .Subscript a (.Slice lo hi none _) _ => (compE n sc N a).bind fun x => (compCO (compE n sc N) lo).bind fun y => (compCO (compE n sc N) hi).map fun z => .slice x y z
    | .Subscript a (.Slice none none (some (.UnaryOp .USub (.Constant (.int 1) _ _) _)) _) _ => (compE n sc N a).map .rev
    | .Subscript a i _ => if notSlice i then (compE n sc N a).bind fun x => (compE n sc N i).map fun y => .sub x y else none
    | .Call (.Name f _) (a :: es) [] _ => if glB sc f && okName f && notStar a && es.all notStar then
        (if f = "isinstance" then (match es with
          | [.Name c _] => if glB sc c then (compE n sc N a).map fun x => .isi x c else none
          | _ => none)
        else if f = "sorted" ∧ isSet a = true ∧ glB sc "set" = true ∧ es.isEmpty = true then (compE n sc N (setArg a)).map .sortset
        else if bltn f then (if f = "__name__" then none else (compL (compE n sc N) (a :: es)).map fun c => .blt f c)
        else (compL (compE n sc N) (a :: es)).map fun c => .call f c) else none
    | .Call (.Attribute o m ap) [a] [] cp => if okBase o && notStar a && (ap.endLine == cp.line) then (compE n sc N o).bind fun x => (compE n sc N a).map fun y => .mcall x m (.cons y .nil) else none
    | .Call (.Attribute o m ap) [a, b] [] cp => if okBase o && notStar a && notStar b && (ap.endLine == cp.line) then (compE n sc N o).bind fun x => (compE n sc N a).bind fun y => (compE n sc N b).map fun z => .mcall x m (.cons y (.cons z .nil)) else none
    | .Call (.Attribute o m ap) (a :: b :: c :: es) [] cp => if okBase o && notStar a && (b :: c :: es).all notStar && decide (es.length < 20) && (ap.endLine == cp.line) then (compE n sc N o).bind fun x => (compL (compE n sc N) (a :: b :: c :: es)).bind fun y => if 3 ≤ y.len then some (.mcall x m y) else none else none
    | .Attribute o m _ => if okBase o then (compE n sc N o).map fun x => .attr x m else none
    | .ListComp elt [⟨tg, iter, ifs, 0⟩] scope _ => if blkC N sc scope (ownOf N scope) then
        (compI (compE n sc N) sc tg iter).bind fun ci => (compT scope N tg).bind fun ct => if (ctIx ct).all (fun i => decide (i ∈ (ownOf N scope).map (·.2))) then (compIf (compE n scope N) ifs).bind fun co => (compE n scope N elt).map fun ce => .comp ce ct ci co ((ownOf N scope).map (·.2)) else none else none
    | _ => none
end Q

set_option Elab.async false
set_option linter.all false
set_option maxRecDepth 100000
set_option maxHeartbeats 2000000
namespace Q
open PySem PySem.Spec PyProof.Rows L2
/-- the frame's scope says what the text's scope says -/
def ScOk (sc : Scope) (env : Env) : Prop := ∀ x kd, sc.names.lookup x = some kd → match kd with
  | .local => env.scope.names.lookup x = some .local
  | .cell => env.scope.names.lookup x = some .cell
  | .free => env.scope.names.lookup x = some .cell ∨ env.scope.names.lookup x = some .free
  | .globalImplicit => env.scope.names.lookup x = some .globalImplicit
  | .globalExplicit => True
theorem lookup_map2 {h : Str → NameKind → NameKind} {x : Str} : ∀ {l : List (Str × NameKind)}, (l.map fun p => (p.1, h p.1 p.2)).lookup x = (l.lookup x).map (h x)
  | [] => rfl
  | (n, kd) :: l => by
    rw [List.map_cons, List.lookup_cons, List.lookup_cons]
    cases e : (x == n) with
    | true => rw [beq_iff_eq.mp e]; rfl
    | false => exact lookup_map2
theorem scOk_blk {scope : Scope} {cl : List (Str × Addr)} {C : Addr} {env : Env} : ScOk scope (compEnvC scope cl C env) := by
  intro x kd hx
  have e : (relabel scope env).names = scope.names.map fun p => (p.1, if (p.2 == .free && env.scope.kind == .function && env.kindOf p.1 == some .cell) then NameKind.cell else p.2) := by
    unfold relabel
    refine List.map_congr_left fun p _ => ?_
    obtain ⟨n, q⟩ := p
    dsimp only
    split <;> rfl
  have l : (relabel scope env).names.lookup x = some (if (kd == .free && env.scope.kind == .function && env.kindOf x == some .cell) then NameKind.cell else kd) := by
    rw [e]
    have := lookup_map2 (h := fun n q => if (q == .free && env.scope.kind == .function && env.kindOf n == some .cell) then NameKind.cell else q) (x := x) (l := scope.names)
    rw [this, hx]; rfl
  cases kd with
  | «local» => exact l
  | cell => exact l
  | free =>
    by_cases hc : (NameKind.free == .free && env.scope.kind == .function && env.kindOf x == some .cell) = true
    · rw [if_pos hc] at l; exact .inl l
    · rw [if_neg hc] at l; exact .inr l
  | globalImplicit => exact l
  | globalExplicit => trivial
section
variable {X : Cx} {T : Tab} {k : Nat} {sc : Scope} {N : List Str}
theorem vis_of {x : Str} (h : visB sc x = true) (s : ScOk sc X.env) : Vis X.env.scope x := by
  unfold visB at h
  cases e : sc.names.lookup x with
  | none => rw [e] at h; cases h
  | some kd =>
    have := s x kd e
    rw [e] at h
    cases kd with
    | «local» => exact .inl this
    | cell => exact .inr (.inl this)
    | free => rcases this with z | z; exact .inr (.inl z); exact .inr (.inr z)
    | _ => cases h
theorem gl_of {x : Str} (h : glB sc x = true) (s : ScOk sc X.env) : Gl X x := by
  unfold glB at h
  cases e : sc.names.lookup x with
  | none => rw [e] at h; cases h
  | some kd =>
    have := s x kd e
    rw [e] at h
    cases kd with
    | globalImplicit => exact this
    | _ => cases h
theorem loc_of {x : Str} (h : locB sc x = true) (s : ScOk sc X.env) : Loc X.env.scope x ∧ (X.env.scope.names.lookup x = some .cell → sc.names.lookup x = some .cell) := by
  unfold locB at h
  cases e : sc.names.lookup x with
  | none => rw [e] at h; cases h
  | some kd =>
    have := s x kd e
    rw [e] at h
    cases kd with
    | «local» => exact ⟨.inl this, fun z => by rw [show X.env.scope.names.lookup x = some .local from this] at z; cases z⟩
    | cell => exact ⟨.inr this, fun _ => rfl⟩
    | _ => cases h
/-- names that are bound -/
def FnOk1 (X : Cx) (sc : Scope) : Prop := ∀ x, sc.names.lookup x = some .cell → X.fn x = true
theorem pg_of {x : Str} {pos : Pos} {i : Nat} (o : Ok X k T) (hN : X.N = N) (s : ScOk sc X.env) (hf : FnOk1 X sc) (h1 : locB sc x = true) (h2 : idx N x = some i) : PG X (.Name x pos) (gName i) := by
  obtain ⟨l1, l2⟩ := loc_of (X := X) h1 s
  refine pg_name o.nd (by rw [hN]; exact idx_ok h2) l1 ?_
  rcases l1 with z | z
  · exact .inr z
  · exact .inl (hf x (l2 z))
theorem pgs_of (o : Ok X k T) (hN : X.N = N) (s : ScOk sc X.env) (hf : FnOk1 X sc) : ∀ {es : List Expr} {is : List Nat}, tgNames sc N es = some is → PGs X es (gNames is) ∧ (assignEach es X.env).length = is.length ∧ (assignEach es X.env).findIdx? (·.1) = none
  | [], is, h => by cases h; exact ⟨pgs_nil, rfl, rfl⟩
  | e :: r, is, h => by
    cases e with
    | Name x p =>
      unfold tgNames at h
      split at h
      · rename_i hl
        split at h
        · rename_i i is' h1 h2
          cases h
          obtain ⟨i1, i2, i3⟩ := pgs_of o hN s hf h2
          refine ⟨pgs_cons (pg_of o hN s hf hl h1) i1 rfl, ?_, ?_⟩
          · show (assignEach r X.env).length + 1 = is'.length + 1
            rw [i2]
          · show ((false, assign (.Name x p) X.env) :: assignEach r X.env).findIdx? (·.1) = none
            rw [List.findIdx?_cons, i3]; rfl
        · cases h
      · cases h
    | _ => cases h
theorem tg_of {tg : Expr} {ct : CT} (o : Ok X k T) (hN : X.N = N) (s : ScOk sc X.env) (hf : FnOk1 X sc) (h : compT sc N tg = some ct) : PG X tg (tgR X.K ct) := by
  cases tg with
  | Name x p =>
    have h : (if locB sc x then (idx N x).map CT.nm else none) = some ct := h
    split at h
    · rename_i hl
      obtain ⟨i, h1, h2⟩ := om h
      subst h2
      exact pg_of o hN s hf hl h1
    · cases h
  | Tuple es kk p =>
    obtain ⟨is, h1, h2⟩ := om (show (tgNames sc N es).map CT.nms = some ct from h)
    subst h2
    obtain ⟨i1, i2, i3⟩ := pgs_of o hN s hf h1
    exact pg_tup o.calm i1 i2 i3
  | _ => cases h
theorem Ok.blk (o : Ok X k T) {scope : Scope} {s : Shared} {H : Hp} {C : Addr} {cl : List (Str × Addr)} {fp : List Addr} : Ok (Blk X scope s H C cl fp) k T :=
  ⟨o.calm, o.nd, o.gd, o.room, o.blt, fun x m h => ⟨(o.fn x m h).ex⟩, o.con, o.fld, fun c x m h => ⟨(o.prop c x m h).ex⟩, fun c x m h => ⟨(o.mth c x m h).ex⟩⟩
theorem blkOk_of {scope : Scope} {own : List (Str × Nat)} (h : blkC N sc scope own = true) (hN : X.N = N) (s : ScOk sc X.env) : BlkOk X.N X.env.scope scope own := by
  have b := blkOk_by h
  rw [hN]
  refine ⟨b.kind, b.uniq, b.ix, fun y hy e => ?_, b.own⟩
  rcases b.free y hy e with z | z
  · exact .inl (s y.1 .cell z)
  · exact s y.1 .free z
theorem sndL_of {f : Expr → Option CE} : ∀ {es : List Expr} {cl : CL}, (∀ e c, f e = some c → SndE X T e c) → compL f es = some cl → SndL X T es cl
  | [], cl, _, h => by cases h; exact sndL_nil
  | e :: es, cl, hf, h => by
    unfold compL at h
    split at h
    · rename_i hs
      split at h
      · rename_i c r h1 h2
        cases h
        exact sndL_cons (hf e c h1) (sndL_of hf h2) hs
      · cases h
    · cases h
theorem sndO_of {f : Expr → Option CE} {eo : Option Expr} {co : CO} (hf : ∀ e c, f e = some c → SndE X T e c) (h : compCO f eo = some co) : SndO X T eo co := by
  cases eo with
  | none => cases h; exact sndO_no
  | some e =>
    obtain ⟨c, h1, h2⟩ := om (show (f e).map CO.yes = some co from h)
    subst h2
    exact sndO_yes (hf e c h1)
theorem sndI_enum {es : List Expr} {kk : Nat} {tpos : Pos} {e : Expr} {c : CE} {p pos : Pos} (o : Ok X k T) (h : SndE X T e c) (hg : Gl X "enumerate") (hs : notStar e = true) : SndI X T (.Tuple es kk tpos) (.Call (.Name "enumerate" p) [e] [] pos) (.enum c) := by
  intro F0 ρ Hs st H σ env g ev lk ds st' he R kq
  unfold evalI at he
  obtain ⟨⟨x1, x2⟩, q, he⟩ := ob he
  cases x1 with
  | lst xs =>
    cases he
    refine EvI.of (pi_enum hg (o.blt _ (by decide +kernel)) pa_ev (by rw [star_cons hs]; rfl)) ?_
    refine EvA.one hs ?_
    refine Ev.bnd (h F0 ρ Hs st H σ env g ev _ _ q _ fun v H1 ρ1 Hs1 e1 g1 r1 => fun bd => ?_)
    obtain ⟨p, vs, rfl, h5, h6⟩ := Rep.lst.mp r1
    refine ⟨p, vs, rfl, SqL.of (g1.lst h5), kq _ _ _ _ e1 g1 (wd_enum h5 h6) (fun z => by cases z) ?_⟩
    have := (bd p).1 _ (g1.lst h5)
    unfold enumD
    rw [List.length_map, List.length_zipIdx, h6.length]
    exact this
  | tup xs =>
    cases he
    refine EvI.of (pi_enumT hg (o.blt _ (by decide +kernel)) pa_ev (by rw [star_cons hs]; rfl)) ?_
    refine EvA.one hs ?_
    refine Ev.bnd (h F0 ρ Hs st H σ env g ev _ _ q _ fun v H1 ρ1 Hs1 e1 g1 r1 => fun bd => ?_)
    obtain ⟨p, vs, rfl, h5, h6⟩ := Rep.tup.mp r1
    refine ⟨p, vs, rfl, SqT.of (g1.tup h5), kq _ _ _ _ e1 g1 (wd_enumT h5 h6) (fun z => by cases z) ?_⟩
    have := (bd p).2.1 _ (g1.tup h5)
    unfold enumD
    rw [List.length_map, List.length_zipIdx, h6.length]
    exact this
  | _ => cases he
theorem folded_of {e : Expr} {env : Env} (h : ∀ a b c, e ≠ .Set a b c) : ∀ x, foldedSetIterable e env x = pure x := fun x => by
  unfold foldedSetIterable
  cases e <;> first | rfl | exact absurd rfl (h _ _ _)
theorem compE_var {n : Nat} {e : Expr} {i : Nat} (h : compE n sc N e = some (.var i)) : True := trivial
end
end Q

set_option Elab.async false
set_option linter.all false
set_option maxRecDepth 100000
set_option maxHeartbeats 4000000
namespace Q
open PySem PySem.Spec PyProof.Rows L2
section
variable {X : Cx} {T : Tab} {k : Nat} {sc : Scope} {N : List Str}
def NameOk (X : Cx) (f : Expr → Option CE) : Prop := ∀ x p i, f (.Name x p) = some (.var i) → X.N[i]? = some x ∧ Vis X.env.scope x ∧ (x == ("__debug__" : Str)) = false ∧ (x == ("__classdict__" : Str)) = false
theorem sndEx_of {f : Expr → Option CE} {tg e : Expr} {ci : CI} (hf : ∀ e c, f e = some c → SndE X T e c) (hn : NameOk X f) (h : compEx f e = some ci) : SndI X T tg e ci := by
  unfold compEx at h
  cases hc : f e with
  | none => rw [hc] at h; cases h
  | some c =>
    rw [hc] at h
    dsimp only at h
    split at h
    · cases h
    · rename_i hv
      cases h
      cases hvar : isVar c with
      | false => exact sndI_ex (hf e c hc) hvar
      | true =>
        cases c with
        | var i =>
          cases e with
          | Name x p =>
            obtain ⟨h1, h2, h3, h4⟩ := hn x p i hc
            exact sndI_var h1 h2 h3 h4
          | _ => exact absurd rfl hv
        | _ => cases hvar
theorem sndI_of {f : Expr → Option CE} {tg iter : Expr} {ci : CI} (o : Ok X k T) (s : ScOk sc X.env) (hf : ∀ e c, f e = some c → SndE X T e c) (hn : NameOk X f) (h : compI f sc tg iter = some ci) : SndI X T tg iter ci ∧ ∀ a b c, iter ≠ .Set a b c := by
  unfold compI at h
  split at h
  · rename_i x p a pos
    refine ⟨?_, fun _ _ _ z => by cases z⟩
    split at h
    · rename_i hc
      obtain ⟨rfl, hg, hs⟩ := hc
      obtain ⟨c, h1, h2⟩ := om h
      subst h2
      exact sndI_rng1 o (hf _ _ h1) (gl_of hg s) hs
    · split at h
      · rename_i hc
        obtain ⟨rfl, hg, hs⟩ := hc
        split at h
        · rename_i ht
          obtain ⟨c, h1, h2⟩ := om h
          subst h2
          cases tg with
          | Tuple es kk tp => exact sndI_enum o (hf _ _ h1) (gl_of hg s) hs
          | _ => cases ht
        · cases h
      · exact sndEx_of hf hn h
  · rename_i x p a b pos
    refine ⟨?_, fun _ _ _ z => by cases z⟩
    split at h
    · rename_i hc
      obtain ⟨rfl, hg, hs, hs'⟩ := hc
      obtain ⟨c, h1, h⟩ := ob h
      obtain ⟨d, h2, h3⟩ := om h
      subst h3
      exact sndI_rng2 o (hf _ _ h1) (hf _ _ h2) (gl_of hg s) hs hs'
    · split at h
      · rename_i hc
        obtain ⟨rfl, hg, hs, hs'⟩ := hc
        split at h
        · rename_i ht
          obtain ⟨c, h1, h⟩ := ob h
          obtain ⟨d, h2, h3⟩ := om h
          subst h3
          cases tg with
          | Tuple es kk tp => exact sndI_zip o (hf _ _ h1) (hf _ _ h2) (gl_of hg s) hs hs'
          | _ => cases ht
        · cases h
      · exact sndEx_of hf hn h
  · cases h
  · rename_i hne1 hne2 hne3
    exact ⟨sndEx_of hf hn h, fun a b c z => hne3 a b c z⟩
theorem sndT_ife {t a b : Expr} {ct ca cb : CE} {pos : Pos} (h0 : SndT X T t ct) (h1 : SndT X T a ca) (h2 : SndT X T b cb) : SndT X T (.IfExp t a b pos) (.ife ct ca cb) := by
  intro F0 ρ Hs st H σ env g ev d st' he Q k
  unfold evalE at he
  obtain ⟨⟨x1, x2⟩, q, he⟩ := ob he
  cases x1 with
  | bl c =>
    intro pins s I
    show wpAny _ _ (do if ← isTrue t X.env (eval t X.env) then isTrue a X.env (eval a X.env) else isTrue b X.env (eval b X.env)) _ _ s
    refine wpAny_bind (thn (h0 F0 ρ Hs st H σ env g ev _ _ q (fun c' H1 => (if c' = true then EvT X a σ H1 Q else EvT X b σ H1 Q)) (fun H1 ρ1 Hs1 e1 g1 => ?_) pins s I) fun c' s1 ⟨H1, I1, q1⟩ => ?_)
    · cases c with
      | true => exact iteT (h1 F0 ρ1 Hs1 _ H1 σ env g1 (ev.mono e1) _ _ he Q fun H2 ρ2 Hs2 e2 => k _ _ _ (e1.trans e2))
      | false => exact iteF (h2 F0 ρ1 Hs1 _ H1 σ env g1 (ev.mono e1) _ _ he Q fun H2 ρ2 Hs2 e2 => k _ _ _ (e1.trans e2))
    · cases c' with
      | true => exact q1 pins s1 I1
      | false => exact q1 pins s1 I1
  | _ => cases he
/-- what is shown of an expression -/
structure Both (X : Cx) (T : Tab) (e : Expr) (c : CE) : Prop where
  val : SndE X T e c
  tst : SndT X T e c
  wrd : ∀ op vs pos, e = Expr.BoolOp op vs pos → SndW X T e c
theorem both_val {e : Expr} {c : CE} (h : SndE X T e c) (he : ∀ whole, isTrue e X.env whole = (do let v ← whole; standAt e.pos; holding [v] (truthy v))) (hb : ∀ op vs pos, e ≠ .BoolOp op vs pos) : Both X T e c := ⟨h, sndT_val h he, fun op vs pos z => absurd z (hb op vs pos)⟩
theorem name_of {n : Nat} (hN : X.N = N) (s : ScOk sc X.env) : NameOk X (compE n sc N) := by
  intro x p i h
  cases n with
  | zero => cases h
  | succ n =>
    have h : (if okName x then (if visB sc x then (idx N x).map CE.var else if glB sc x then some (.con x) else none) else none) = some (.var i) := h
    split at h
    · rename_i h0
      split at h
      · rename_i h1
        obtain ⟨j, h2, h3⟩ := om h
        cases h3
        obtain ⟨h4, h5⟩ := okName_ok h0
        exact ⟨by rw [hN]; exact idx_ok h2, vis_of h1 s, h4, h5⟩
      · split at h <;> cases h
    · cases h
/-- a comprehension's parts -/
theorem compOk_of {n : Nat} {elt tg iter : Expr} {ifs : List Expr} {scope : Scope} {ce : CE} {ct : CT} {ci : CI} {co : CO} (ih : ∀ (sc : Scope) (N : List Str) (e : Expr) (c : CE), compE n sc N e = some c → ∀ (X : Cx), Ok X k T → X.N = N → ScOk sc X.env → Both X T e c)
    (o : Ok X k T) (hN : X.N = N) (s : ScOk sc X.env) (hb : blkC N sc scope (ownOf N scope) = true) (h1 : compI (compE n sc N) sc tg iter = some ci) (h2 : compT scope N tg = some ct) (h3 : (ctIx ct).all (fun i => decide (i ∈ (ownOf N scope).map (·.2))) = true)
    (h4 : compIf (compE n scope N) ifs = some co) (h5 : compE n scope N elt = some ce) : CompOk X T elt tg iter ifs scope (ownOf N scope) ce ct ci co := by
  obtain ⟨i1, i2⟩ := sndI_of o s (fun e c h => (ih sc N e c h X o hN s).val) (name_of hN s) h1
  refine ⟨i1, blkOk_of hb hN s, fun s' H C cl fp => ?_, ?_, fun s' H C cl fp => (ih scope N elt ce h5 _ o.blk hN scOk_blk).val, folded_of i2, fun i hi => of_decide_eq_true (List.all_eq_true.mp h3 i hi)⟩
  · refine tg_of (X := Blk X scope s' H C cl fp) (sc := scope) o.blk hN scOk_blk (fun x hx => ?_) h2
    show (scope.names.lookup x == some .cell) = true
    rw [hx]; rfl
  · cases ifs with
    | nil => cases h4; trivial
    | cons e er =>
      cases er with
      | nil =>
        obtain ⟨c, z1, z2⟩ := om (show (compE n scope N e).map CO.yes = some co from h4)
        subst z2
        exact fun s' H C cl fp => (ih scope N e c z1 _ o.blk hN scOk_blk).tst
      | cons _ _ => cases h4
theorem compE_ok : ∀ (n : Nat) (sc : Scope) (N : List Str) (e : Expr) (c : CE), compE n sc N e = some c → ∀ (X : Cx), Ok X k T → X.N = N → ScOk sc X.env → Both X T e c := by
  intro n
  induction n with
  | zero => intro sc N e c h; cases h
  | succ n ih =>
    intro sc N e c h X o hN s
    have ihE : ∀ e c, compE n sc N e = some c → SndE X T e c := fun e c h => (ih sc N e c h X o hN s).val
    have ihT : ∀ e c, compE n sc N e = some c → SndT X T e c := fun e c h => (ih sc N e c h X o hN s).tst
    unfold compE at h
    split at h
    · -- Name
      split at h
      · rename_i h0
        obtain ⟨h4, h5⟩ := okName_ok h0
        split at h
        · rename_i h1
          obtain ⟨j, h2, h3⟩ := om h
          subst h3
          exact both_val (snd_var (by rw [hN]; exact idx_ok h2) (vis_of h1 s) h4 h5) (fun _ => rfl) (fun _ _ _ z => by cases z)
        · split at h
          · rename_i h1
            cases h
            exact both_val (snd_con o (gl_of h1 s) h4) (fun _ => rfl) (fun _ _ _ z => by cases z)
          · cases h
      · cases h
    · cases h; exact both_val snd_int (fun _ => rfl) (fun _ _ _ z => by cases z)
    · cases h; exact both_val snd_bl (fun _ => rfl) (fun _ _ _ z => by cases z)
    · cases h; exact both_val snd_str (fun _ => rfl) (fun _ _ _ z => by cases z)
    · cases h; exact both_val snd_non (fun _ => rfl) (fun _ _ _ z => by cases z)
    · obtain ⟨cl, h1, h⟩ := ob h
      split at h
      · cases h; exact both_val (snd_tup (sndL_of ihE h1) (by assumption)) (fun _ => rfl) (fun _ _ _ z => by cases z)
      · cases h
    · obtain ⟨cl, h1, h⟩ := ob h
      split at h
      · cases h; exact both_val (snd_lst (sndL_of ihE h1) (by assumption)) (fun _ => rfl) (fun _ _ _ z => by cases z)
      · cases h
    · cases h; exact both_val snd_dnew (fun _ => rfl) (fun _ _ _ z => by cases z)
    · obtain ⟨x, h1, h⟩ := ob h
      obtain ⟨y, h2, h⟩ := om h
      subst h
      exact both_val (fresh_dct (ihE _ _ h1) (ihE _ _ h2)).snd (fun _ => rfl) (fun _ _ _ z => by cases z)
    · obtain ⟨x, h1, h⟩ := ob h
      obtain ⟨y, h2, h⟩ := om h
      subst h
      exact both_val (snd_bin (ihE _ _ h1) (ihE _ _ h2)) (fun _ => rfl) (fun _ _ _ z => by cases z)
    · obtain ⟨x, h1, h⟩ := om h
      subst h
      exact both_val (snd_neg (ihE _ _ h1)) (fun _ => rfl) (fun _ _ _ z => by cases z)
    · obtain ⟨x, h1, h⟩ := om h
      subst h
      exact ⟨snd_not (ihE _ _ h1), sndT_not (ihT _ _ h1), fun _ _ _ z => by cases z⟩
    · split at h
      · cases h
      · rename_i hm
        obtain ⟨x, h1, h⟩ := ob h
        obtain ⟨y, h2, h⟩ := om h
        subst h
        have hm := Bool.eq_false_iff.mpr hm
        exact ⟨snd_cmp o (ihE _ _ h1) (ihE _ _ h2) hm, sndT_cmp o (ihE _ _ h1) (ihE _ _ h2) hm, fun _ _ _ z => by cases z⟩
    · split at h
      · cases h
      · rename_i op op' b c' hm
        obtain ⟨x, h1, h⟩ := ob h
        obtain ⟨y, h2, h⟩ := ob h
        obtain ⟨z, h3, h⟩ := om h
        subst h
        simp only [Bool.or_eq_true, not_or, Bool.not_eq_true, beq_iff_eq] at hm
        obtain ⟨⟨⟨⟨m0, m1⟩, m2⟩, m3⟩, m4⟩ := hm
        exact ⟨snd_chain o (ihE _ _ h1) (ihE _ _ h2) (ihE _ _ h3) m0 ⟨m1, m2⟩ ⟨m3, m4⟩, sndT_chain o (ihE _ _ h1) (ihE _ _ h2) (ihE _ _ h3) m0 ⟨m1, m2⟩ ⟨m3, m4⟩, fun _ _ _ z => by cases z⟩
    · rename_i op a pos
      have w : SndW X T (.BoolOp op [a] pos) c := by
        cases op with
        | And => exact sndW_and1 (ihT _ _ h)
        | Or => exact sndW_or1 (ihT _ _ h)
      exact ⟨snd_one (ihE _ _ h), w.t, fun _ _ _ _ => w⟩
    · obtain ⟨x, h1, h⟩ := ob h
      obtain ⟨y, h2, h⟩ := om h
      subst h
      have w := sndW_and (ihT _ _ h1) ((ih sc N _ _ h2 X o hN s).wrd _ _ _ rfl)
      exact ⟨snd_and (ihE _ _ h1) (ihE _ _ h2), w.t, fun _ _ _ _ => w⟩
    · obtain ⟨x, h1, h⟩ := ob h
      obtain ⟨y, h2, h⟩ := om h
      subst h
      have w := sndW_or (ihT _ _ h1) ((ih sc N _ _ h2 X o hN s).wrd _ _ _ rfl)
      exact ⟨snd_or (ihE _ _ h1) (ihE _ _ h2), w.t, fun _ _ _ _ => w⟩
    · obtain ⟨z, h0, h⟩ := ob h
      obtain ⟨x, h1, h⟩ := ob h
      obtain ⟨y, h2, h⟩ := om h
      subst h
      exact ⟨snd_ife (ihT _ _ h0) (ihE _ _ h1) (ihE _ _ h2), sndT_ife (ihT _ _ h0) (ihT _ _ h1) (ihT _ _ h2), fun _ _ _ z => by cases z⟩
    · obtain ⟨x, h1, h⟩ := ob h
      obtain ⟨y, h2, h⟩ := ob h
      obtain ⟨z, h3, h⟩ := om h
      subst h
      exact both_val (snd_slice (ihE _ _ h1) (sndO_of ihE h2) (sndO_of ihE h3)) (fun _ => rfl) (fun _ _ _ z => by cases z)
    · obtain ⟨x, h1, h⟩ := om h
      subst h
      exact both_val (snd_rev (ihE _ _ h1)) (fun _ => rfl) (fun _ _ _ z => by cases z)
    · split at h
      · obtain ⟨x, h1, h⟩ := ob h
        obtain ⟨y, h2, h⟩ := om h
        subst h
        exact both_val (snd_sub o (ihE _ _ h1) (ihE _ _ h2) (by assumption)) (fun _ => rfl) (fun _ _ _ z => by cases z)
      · cases h
    · split at h
      · rename_i f p a es pos hc
        simp only [Bool.and_eq_true] at hc
        obtain ⟨⟨⟨c1, c2⟩, c3⟩, c4⟩ := hc
        obtain ⟨c5, c6⟩ := okName_ok c2
        split at h
        · rename_i hf
          subst hf
          split at h
          · split at h
            · rename_i hg
              obtain ⟨x, h1, h⟩ := om h
              subst h
              exact both_val (snd_isi o (ihE _ _ h1) (gl_of c1 s) (gl_of hg s) c3) (fun _ => rfl) (fun _ _ _ z => by cases z)
            · cases h
          · cases h
        · split at h
          · rename_i hss
            obtain ⟨rfl, hs1, hs2, hs3⟩ := hss
            obtain ⟨x, h1, h⟩ := om h
            subst h
            unfold isSet at hs1
            split at hs1
            · rw [Bool.and_eq_true, decide_eq_true_eq] at hs1
              obtain ⟨rfl, hs4⟩ := hs1
              cases es with
              | nil => exact both_val (snd_sortset o (ihE _ _ h1) (gl_of c1 s) (gl_of hs2 s) hs4) (fun _ => rfl) (fun _ _ _ z => by cases z)
              | cons e1 es => cases hs3
            · cases hs1
          split at h
          · rename_i hb
            split at h
            · cases h
            · rename_i hn
              obtain ⟨x, h1, h⟩ := om h
              subst h
              exact both_val (snd_blt o (sndL_of ihE h1) (gl_of c1 s) (of_decide_eq_true hb) hn c5 c3 c4) (fun _ => rfl) (fun _ _ _ z => by cases z)
          · obtain ⟨x, h1, h⟩ := om h
            subst h
            exact both_val (snd_call o (sndL_of ihE h1) (gl_of c1 s) c5 c3 c4) (fun _ => rfl) (fun _ _ _ z => by cases z)
      · cases h
    · split at h
      · rename_i hc
        simp only [Bool.and_eq_true] at hc
        obtain ⟨⟨c1, c2⟩, c3⟩ := hc
        obtain ⟨x, h1, h⟩ := ob h
        obtain ⟨y, h2, h⟩ := om h
        subst h
        exact both_val (snd_mcall1 o (ihE _ _ h1) (ihE _ _ h2) c1 c2 c3) (fun _ => rfl) (fun _ _ _ z => by cases z)
      · cases h
    · split at h
      · rename_i hc
        simp only [Bool.and_eq_true] at hc
        obtain ⟨⟨⟨c1, c2⟩, c2'⟩, c3⟩ := hc
        obtain ⟨x, h1, h⟩ := ob h
        obtain ⟨y, h2, h⟩ := ob h
        obtain ⟨z, h3, h⟩ := om h
        subst h
        exact both_val (snd_mcall2 o (ihE _ _ h1) (ihE _ _ h2) (ihE _ _ h3) c1 c2 c2' c3) (fun _ => rfl) (fun _ _ _ z => by cases z)
      · cases h
    · split at h
      · rename_i hc
        simp only [Bool.and_eq_true, decide_eq_true_eq] at hc
        obtain ⟨⟨⟨⟨c1, c2⟩, c2'⟩, c3⟩, c4⟩ := hc
        obtain ⟨x, h1, h⟩ := ob h
        obtain ⟨y, h2, h⟩ := ob h
        split at h
        · rename_i hlen
          cases h
          exact both_val (snd_mcallN o (ihE _ _ h1) (sndL_of ihE h2) hlen c1 c2 c2' (by simp only [List.length_cons]; omega) c4) (fun _ => rfl) (fun _ _ _ z => by cases z)
        · cases h
      · cases h
    · split at h
      · obtain ⟨x, h1, h⟩ := om h
        subst h
        exact both_val (snd_attr o (ihE _ _ h1) (by assumption)) (fun _ => rfl) (fun _ _ _ z => by cases z)
      · cases h
    · split at h
      · rename_i hb
        obtain ⟨ci, h1, h⟩ := ob h
        obtain ⟨ct, h2, h⟩ := ob h
        split at h
        · rename_i h3
          obtain ⟨co, h4, h⟩ := ob h
          obtain ⟨ce, h5, h⟩ := om h
          subst h
          exact both_val (snd_comp o (compOk_of ih o hN s hb h1 h2 h3 h4 h5)) (fun _ => rfl) (fun _ _ _ z => by cases z)
        · cases h
      · cases h
    · cases h
end
end Q

set_option Elab.async false
set_option linter.all false
set_option maxRecDepth 100000
set_option maxHeartbeats 4000000
namespace Q
open PySem PySem.Spec PyProof.Rows L2
/-- hints: slots whose things are changed; slots whose dicts have tuple keys; a list that is returned is a cell -/
structure Hint where
  ow : List Nat
  tk : List Nat
  cell : Bool
def freshB (n : Nat) (sc : Scope) : Expr → Bool
  | .List _ _ => true
  | .Dict [some _] [_] _ => true
  | .ListComp _ [⟨_, _, _, 0⟩] _ _ => true
  | .Call (.Name x _) [a] [] _ => decide (x = "list") && glB sc x && notStar a
  | _ => false
def isDNew : Expr → Bool
  | .Dict [] [] _ => true
  | _ => false
def isComp : Expr → Bool
  | .ListComp _ _ _ _ => true
  | .SetComp _ _ _ _ => true
  | .DictComp _ _ _ _ _ => true
  | _ => false
def flagsP (hint : Hint) (n : Nat) (sc : Scope) : List Nat → List Expr → List Bool
  | i :: is, e :: es => (decide (i ∈ hint.ow) && (freshB n sc e || isDNew e)) :: flagsP hint n sc is es
  | _, _ => []
/-- the values of a display whose names follow -/
def compP (f : Expr → Option CE) (hint : Hint) : List Nat → List Bool → List Expr → Option CL
  | [], [], [] => some .nil
  | i :: is, b :: bs, e :: es => if notStar e then (if b && isDNew e then some (.dnew (decide (i ∈ hint.tk))) else f e).bind fun c => (compP f hint is bs es).map fun r => .cons c r else none
  | _, _, _ => none
def starB : Expr → Bool
  | .Starred _ _ => true
  | _ => false
/-- which names are stored in reverse -/
def swS (sc : Scope) (ts vs : List Expr) : Option (Option (List Str)) :=
  if !(ts.length == 2 || ts.length == 3) || vs.length != ts.length then some none
  else if vs.any (fun | .Starred .. => true | _ => false) then some none
  else if (ts.filterMap (fun | .Name id pos => if sc.names.lookup id == some .local && pos.line == (ts.head?.map (·.pos.line)).getD 0 then some id else none | _ => none)).length != ts.length || (ts.filterMap (fun | .Name id pos => if sc.names.lookup id == some .local && pos.line == (ts.head?.map (·.pos.line)).getD 0 then some id else none | _ => none)).eraseDups.length != (ts.filterMap (fun | .Name id pos => if sc.names.lookup id == some .local && pos.line == (ts.head?.map (·.pos.line)).getD 0 then some id else none | _ => none)).length then some none
  else if vs.all (foldedForSure 8) then some none
  else if vs.all (constantsAlone 8) then none
  else some (some (ts.filterMap (fun | .Name id pos => if sc.names.lookup id == some .local && pos.line == (ts.head?.map (·.pos.line)).getD 0 then some id else none | _ => none)))
def compSs (f : Stmt → Option CS) : List Stmt → Option CS
  | [] => some .skip
  | [s] => f s
  | s :: ss => (f s).bind fun a => (compSs f ss).map fun b => .seq a b
/-- x = e -/
def compSet (n : Nat) (hint : Hint) (sc : Scope) (N : List Str) (x : Str) (px : Pos) (e : Expr) (pos : Pos) : Option CS :=
  if locB sc x then (idx N x).bind fun i =>
    if isDNew e && decide (i ∈ hint.ow) then some (.setOwn i (.dnew (decide (i ∈ hint.tk))))
    else (compE n sc N e).bind fun c =>
      if isComp e then (match e with
        | .ListComp _ [⟨_, _, _, 0⟩] scope cpos => if (sc.names.lookup x == some .local) && (px.line == cpos.line) && !(scope.names.any fun (n, k) => n == x && (k == .local || k == .cell)) then some (if i ∈ hint.ow then .setOwn i c else .set i c)
          else if sc.names.lookup x == some .cell then some (if i ∈ hint.ow then .setOwn i c else .set i c) else none
        | _ => none)
      else some (if decide (i ∈ hint.ow) && freshB n sc e then .setOwn i c else .set i c)
  else none
def okVar (sc : Scope) (x : Str) : Bool := visB sc x && okName x
def compTg (f : Expr → Option CE) (sc : Scope) (N : List Str) : List Expr → Option (List (Nat × Option CE))
  | [] => some []
  | .Name x _ :: r => if locB sc x then (idx N x).bind fun i => (compTg f sc N r).map fun ks => (i, none) :: ks else none
  | .Subscript (.Name x _) kx _ :: r => if okVar sc x && notSlice kx then (idx N x).bind fun i => (f kx).bind fun ck => (compTg f sc N r).map fun ks => (i, some ck) :: ks else none
  | _ :: _ => none
def compS (hint : Hint) (sc : Scope) (N : List Str) : Nat → Stmt → Option CS
  | 0, _ => none
  | n + 1, s => match s with
    | .Assign [.Name x px] e pos => compSet n hint sc N x px e pos
    | .Assign [.Subscript (.Name x _) kx _] e _ => if okVar sc x && notSlice kx then (idx N x).bind fun i => (compE n sc N kx).bind fun ck => (compE n sc N e).map fun c => .put i ck c else none
    | .Assign [.Attribute (.Name x _) m _] e _ => if okVar sc x then (idx N x).bind fun i => (compE n sc N e).map fun c => .setA i m c else none
    | .Assign [.Tuple ts kt pt] (.Tuple vs kv pv) _ => if (tgNames sc N ts).isNone then (compTg (compE n sc N) sc N ts).bind fun ks => (compL (compE n sc N) vs).bind fun cl => (match swS sc ts vs with
        | some none => if cl.len ≤ 1000 ∧ ks.length = cl.len then some (.puts ks cl) else none
        | _ => none) else (tgNames sc N ts).bind fun is => (compP (compE n sc N) hint is (flagsP hint n sc is vs) vs).bind fun cl =>
        (match swS sc ts vs with
        | some none => if is.length ≤ 1000 then some (.par is (flagsP hint n sc is vs) cl) else none
        | some (some names) => (match ts, vs with
          | [.Name x _, .Name y _], [_, _] => if names = [x, y] && !(x == y) && (sc.names.lookup x == some .local) && (sc.names.lookup y == some .local) then some (.par is (flagsP hint n sc is vs) cl) else none
          | [.Name x _, .Name y _, .Name z _], [_, _, _] => if names = [x, y, z] && !(x == y) && !(x == z) && !(y == z) && (sc.names.lookup x == some .local) && (sc.names.lookup y == some .local) && (sc.names.lookup z == some .local) then some (.par is (flagsP hint n sc is vs) cl) else none
          | _, _ => none)
        | none => none)
    | .Assign [.Tuple ts kt pt] (.Call (.Attribute (.Name x px) m ap) [] [] cp) _ => if m = "pop" && okVar sc x && (ap.endLine == cp.line) then (tgNames sc N ts).bind fun is => (idx N x).map fun i => .popTo is i else none
    | .Assign [.Tuple ts kt pt] e _ => if isComp e || isTupleE e then none else (tgNames sc N ts).bind fun is => (compE n sc N e).map fun c => .unpack is c
    | .Expr (.Call (.Attribute (.Name x px) m ap) [a] [] cp) pos => if (m = "append" || m = "extend") && okVar sc x && notStar a && (ap.endLine == cp.line) then
        (idx N x).bind fun i => (compE n sc N a).map fun c => if m = "append" then .app i c else .ext i c
        else none
    | .Expr e _ => if isComp e then none else (compE n sc N e).map .exp
    | .Return (some e) _ => if hint.cell then (match e with
        | .List es _ => (compL (compE n sc N) es).bind fun c => if c.len ≤ 1000 then some (.retCell c) else none
        | _ => none) else (compE n sc N e).map .ret
    | .Return none _ => some .retN
    | .If t a b _ => (compE n sc N t).bind fun c => (compSs (compS hint sc N n) a).bind fun x => (compSs (compS hint sc N n) b).map fun y => .iff c x y
    | .For tg iter body [] _ => (compI (compE n sc N) sc tg iter).bind fun ci => (compT sc N tg).bind fun ct => (compSs (compS hint sc N n) body).map fun b => .loop ct ci b
    | .While t body [] _ => (compE n sc N t).bind fun c => (compSs (compS hint sc N n) body).map fun b => .whl c b
    | .Pass _ => some .skip
    | .Continue _ => some .cont
    | _ => some .stuck
section
variable {X : Cx} {T : Tab} {k : Nat} {sc : Scope} {N : List Str} {hint : Hint}
theorem sndSs_of {f : Stmt → Option CS} (hf : ∀ s c, f s = some c → SndS X T s c) : ∀ {ss : List Stmt} {c : CS}, compSs f ss = some c → SndSs X T ss c
  | [], c, h => by cases h; exact sndSs_nil
  | [s], c, h => sndSs_one (hf s c h)
  | s :: s2 :: ss, c, h => by
    obtain ⟨a, h1, h⟩ := ob (show (f s).bind _ = some c from h)
    obtain ⟨b, h2, h⟩ := om h
    subst h
    exact sndSs_cons (hf s a h1) (sndSs_of hf h2)
theorem compE_comp {n : Nat} {elt tg iter : Expr} {ifs : List Expr} {scope : Scope} {pos : Pos} : compE (n + 1) sc N (.ListComp elt [⟨tg, iter, ifs, 0⟩] scope pos) = if blkC N sc scope (ownOf N scope) then
        (compI (compE n sc N) sc tg iter).bind fun ci => (compT scope N tg).bind fun ct => if (ctIx ct).all (fun i => decide (i ∈ (ownOf N scope).map (·.2))) then (compIf (compE n scope N) ifs).bind fun co => (compE n scope N elt).map fun ce => .comp ce ct ci co ((ownOf N scope).map (·.2)) else none else none := rfl
/-- a new thing -/
theorem fresh_of {n : Nat} {e : Expr} {c : CE} (o : Ok X k T) (hN : X.N = N) (s : ScOk sc X.env) (hb : freshB n sc e = true) (h : compE n sc N e = some c) : FreshE X T e c := by
  cases n with
  | zero => cases h
  | succ n =>
    have ih := compE_ok (k := k) (T := T) n
    have ihE : ∀ e c, compE n sc N e = some c → SndE X T e c := fun e c h => (ih sc N e c h X o hN s).val
    unfold freshB at hb
    split at hb
    · obtain ⟨cl, h1, h⟩ := ob (show (compL (compE n sc N) _).bind _ = some c from h)
      split at h
      · cases h; exact fresh_lst (sndL_of ihE h1) (by assumption)
      · cases h
    · obtain ⟨x, h1, h⟩ := ob (show (compE n sc N _).bind _ = some c from h)
      obtain ⟨y, h2, h⟩ := om h
      subst h
      exact fresh_dct (ihE _ _ h1) (ihE _ _ h2)
    · rw [compE_comp] at h
      split at h
      · rename_i hbk
        obtain ⟨ci, h1, h⟩ := ob h
        obtain ⟨ct, h2, h⟩ := ob h
        split at h
        · rename_i h3
          obtain ⟨co, h4, h⟩ := ob h
          obtain ⟨ce, h5, h⟩ := om h
          subst h
          exact fresh_comp o (compOk_of ih o hN s hbk h1 h2 h3 h4 h5)
        · cases h
      · cases h
    · rename_i x p a pos
      simp only [Bool.and_eq_true, decide_eq_true_eq] at hb
      obtain ⟨⟨rfl, hg⟩, hs⟩ := hb
      unfold compE at h
      dsimp only at h
      split at h
      · rw [if_neg (by decide +kernel), if_neg (fun z => absurd z.1 (by decide +kernel)), if_pos (by decide +kernel), if_neg (by decide +kernel)] at h
        obtain ⟨cl, h1, h⟩ := om h
        subst h
        unfold compL at h1
        rw [if_pos hs] at h1
        cases hc : compE n sc N a with
        | none => rw [hc] at h1; cases h1
        | some ca =>
          rw [hc] at h1
          cases h1
          exact fresh_list o (ihE _ _ hc) (gl_of hg s) hs
      · cases h
    · cases hb
theorem sndP_of {n : Nat} (o : Ok X k T) (hN : X.N = N) (s : ScOk sc X.env) : ∀ {is : List Nat} {es : List Expr} {cl : CL}, compP (compE n sc N) hint is (flagsP hint n sc is es) es = some cl → SndP X T (flagsP hint n sc is es) es cl
  | [], [], cl, h => by cases h; exact sndP_nil
  | i :: is, e :: es, cl, h => by
    unfold flagsP at h ⊢
    unfold compP at h
    split at h
    · rename_i hs
      obtain ⟨c, h1, h⟩ := ob h
      obtain ⟨r, h2, h⟩ := om h
      subst h
      have ihp := sndP_of o hN s h2
      cases hf : (decide (i ∈ hint.ow) && (freshB n sc e || isDNew e)) with
      | false =>
        rw [hf] at h1
        exact sndP_val (compE_ok n sc N e c h1 X o hN s).val ihp hs
      | true =>
        rw [hf] at h1
        refine sndP_own ?_ ihp hs
        cases hd : isDNew e with
        | true =>
          rw [hd] at h1
          cases h1
          unfold isDNew at hd
          split at hd
          · exact fresh_dnew
          · cases hd
        | false =>
          rw [hd] at h1
          simp only [Bool.and_eq_true, hd, Bool.or_false] at hf
          exact fresh_of o hN s hf.2 h1
    · cases h
  | [], e :: es, cl, h => by unfold flagsP compP at h; cases h
  | i :: is, [], cl, h => by unfold flagsP compP at h; cases h
theorem swS_ok {ts vs : List Expr} {kt kv : Nat} {pt pv : Pos} {r : Option (List Str)} (hk : X.env.scope.kind = .function) (h : swS X.env.scope ts vs = some r) : swappedStores [.Tuple ts kt pt] (.Tuple vs kv pv) X.env = pure r := by
  have hb : X.env.blockKind = .function := by unfold Env.blockKind; rw [hk]; rfl
  unfold swS at h
  unfold swappedStores
  dsimp only
  rw [hb]
  split at h
  · rename_i h1
    cases h
    rw [show (!(ts.length == 2 || ts.length == 3) || vs.length != ts.length || ScopeKind.function != ScopeKind.function) = true by rw [h1]; rfl]
    rfl
  · rename_i h1
    have h1 := Bool.eq_false_iff.mpr h1
    rw [show (!(ts.length == 2 || ts.length == 3) || vs.length != ts.length || ScopeKind.function != ScopeKind.function) = false by rw [h1]; rfl]
    simp only [Bool.false_eq_true, if_false]
    split at h
    · rename_i h2
      cases h
      exact if_pos h2
    · rename_i h2
      refine (if_neg h2).trans ?_
      split at h
      · rename_i h3
        cases h
        exact if_pos h3
      · rename_i h3
        split at h
        · rename_i h4
          cases h
          refine (if_neg h3).trans ?_
          rw [if_pos h4]
        · rename_i h4
          split at h
          · cases h
          · rename_i h5
            cases h
            refine (if_neg h3).trans ?_
            rw [if_neg h4, if_neg h5]
            rfl
end
end Q

set_option Elab.async false
set_option linter.all false
set_option maxRecDepth 100000
set_option maxHeartbeats 4000000
namespace Q
open PySem PySem.Spec PyProof.Rows L2
section
variable {X : Cx} {T : Tab} {k : Nat} {sc : Scope} {N : List Str} {hint : Hint}
theorem scOk_self (h : X.env.scope = sc) : ScOk sc X.env := fun x kd e => by
  rw [h]
  cases kd with
  | «local» => exact e
  | cell => exact e
  | free => exact .inr e
  | globalImplicit => exact e
  | globalExplicit => trivial
theorem noSwap {e t : Expr} {l : Nat} {env : Env} (h : isComp e = false) : swapsWith e (some t) l env = pure false := by
  unfold swapsWith
  cases e <;> first | rfl | cases h
theorem noSwapSole {e t : Expr} {l : Nat} {env : Env} (h : isComp e = false) : swapsWithSole [t] e l env = pure false := by
  unfold swapsWithSole
  exact noSwap h
theorem noSwapN {e : Expr} {l : Nat} {env : Env} (h : isComp e = false) : swapsWith e none l env = pure false := by
  unfold swapsWith
  cases e <;> first | rfl | cases h
/-- a comprehension stored by a name of a cell -/
theorem cellSwap {e : Expr} {x : Str} {px : Pos} {l : Nat} {elt : Expr} {gs : List Comprehension} {scope : Scope} {pos : Pos} (hx : X.env.scope.names.lookup x = some .cell) : swapsWith (.ListComp elt gs scope pos) (some (.Name x px)) l X.env = pure false := by
  unfold swapsWith
  dsimp only
  have : X.env.kindOf x = some .cell := hx
  rw [this]
  simp [show (NameKind.cell == NameKind.local) = false from rfl]
theorem loc_lookup {x : Str} (h : X.env.scope = sc) (h1 : (sc.names.lookup x == some .local) = true) : X.env.scope.names.lookup x = some .local := by
  rw [h]; exact beq_iff_eq.mp h1
theorem set_ok {n : Nat} {x : Str} {px pos : Pos} {e : Expr} {c : CS} (o : Ok X k T) (hN : X.N = N) (hs : X.env.scope = sc) (hk : sc.kind = .function) (hf : ∀ y, X.fn y = true) (h : compSet n hint sc N x px e pos = some c) : SndS X T (.Assign [.Name x px] e pos) c := by
  have s : ScOk sc X.env := scOk_self hs
  unfold compSet at h
  split at h
  · rename_i hl
    obtain ⟨i, h1, h⟩ := ob h
    have hi : X.N[i]? = some x := by rw [hN]; exact idx_ok h1
    have hloc := (loc_of (X := X) hl s).1
    split at h
    · rename_i hd
      cases h
      rw [Bool.and_eq_true] at hd
      cases e with
      | Dict ks vs p =>
        cases ks with
        | nil => cases vs with
          | nil => exact snd_setOwn fresh_dnew (puts_name o hi hloc (.inl (hf x)) rfl)
          | cons _ _ => cases hd.1
        | cons _ _ => cases hd.1
      | _ => cases hd.1
    · obtain ⟨ce, h2, h⟩ := ob h
      split at h
      · rename_i hc
        cases e with
        | ListComp elt gs scope cpos =>
          cases gs with
          | nil => cases h
          | cons g gr =>
            cases gr with
            | cons _ _ =>
              obtain ⟨t1, t2, t3, as⟩ := g
              cases as with
              | ofNat m => cases m <;> cases h
              | negSucc m => cases h
            | nil =>
              obtain ⟨tg, iter, ifs, as⟩ := g
              have has : as = 0 := by
                by_cases z : as = 0
                · exact z
                · exfalso
                  revert h
                  cases as with
                  | ofNat m => cases m with
                    | zero => exact absurd rfl z
                    | succ m => intro h; cases h
                  | negSucc m => intro h; cases h
              subst has
              have hfr : freshB n sc (.ListComp elt [⟨tg, iter, ifs, 0⟩] scope cpos) = true := rfl
              cases n with
              | zero => cases h2
              | succ n =>
                have ih := compE_ok (k := k) (T := T) n
                rw [compE_comp] at h2
                split at h2
                · rename_i hbk
                  obtain ⟨ci, z1, h2⟩ := ob h2
                  obtain ⟨ct, z2, h2⟩ := ob h2
                  split at h2
                  · rename_i z3
                    obtain ⟨co, z4, h2⟩ := ob h2
                    obtain ⟨cc, z5, h2⟩ := om h2
                    subst h2
                    have cok := compOk_of ih o hN s hbk z1 z2 z3 z4 z5
                    have h : (if (sc.names.lookup x == some .local) && (px.line == cpos.line) && !(scope.names.any fun (n, k) => n == x && (k == .local || k == .cell)) then some (if i ∈ hint.ow then CS.setOwn i (.comp cc ct ci co ((ownOf N scope).map (·.2))) else .set i (.comp cc ct ci co ((ownOf N scope).map (·.2))))
                      else if sc.names.lookup x == some .cell then some (if i ∈ hint.ow then .setOwn i (.comp cc ct ci co ((ownOf N scope).map (·.2))) else .set i (.comp cc ct ci co ((ownOf N scope).map (·.2)))) else none) = some c := h
                    split at h
                    · rename_i hw
                      simp only [Bool.and_eq_true, Bool.not_eq_true'] at hw
                      obtain ⟨⟨w1, w2⟩, w3⟩ := hw
                      have hx := loc_lookup (X := X) hs w1
                      have hsw := sw_true (elt := elt) (gs := [⟨tg, iter, ifs, 0⟩]) (l := pos.line) (env := X.env) (by rw [hs]; exact hk) hx w2 w3
                      cases h
                      split
                      · exact snd_setOwnComp o hi hx hsw cok
                      · exact snd_setComp o hi hx hsw cok
                    · split at h
                      · rename_i hw
                        have hx : X.env.scope.names.lookup x = some .cell := by rw [hs]; exact beq_iff_eq.mp hw
                        cases h
                        split
                        · exact snd_setOwn (fresh_comp o cok) (puts_name o hi hloc (.inl (hf x)) (cellSwap (e := elt) hx))
                        · exact snd_set (fresh_comp o cok).snd (puts_name o hi hloc (.inl (hf x)) (cellSwap (e := elt) hx))
                      · cases h
                  · cases h2
                · cases h2
        | _ => cases h
      · rename_i hc
        have hc := Bool.eq_false_iff.mpr hc
        cases h
        split
        · rename_i hw
          rw [Bool.and_eq_true] at hw
          exact snd_setOwn (fresh_of o hN s hw.2 h2) (puts_name o hi hloc (.inl (hf x)) (noSwap hc))
        · exact snd_set (compE_ok n sc N e ce h2 X o hN s).val (puts_name o hi hloc (.inl (hf x)) (noSwap hc))
  · cases h
theorem tgNames_len : ∀ {ts : List Expr} {is : List Nat}, tgNames sc N ts = some is → ts.length = is.length
  | [], is, h => by cases h; rfl
  | e :: r, is, h => by
    cases e with
    | Name x p =>
      unfold tgNames at h
      split at h
      · split at h
        · rename_i h2
          cases h
          rw [List.length_cons, List.length_cons, tgNames_len h2]
        · cases h
      · cases h
    | _ => cases h
theorem idx_ne {x y : Str} {i j : Nat} (h1 : idx N x = some i) (h2 : idx N y = some j) (h : (x == y) = false) : i ≠ j := fun z => by
  subst z
  have a := idx_ok h1
  rw [idx_ok h2] at a
  cases a
  simp at h
theorem tg1 {x : Str} {p : Pos} {r : List Expr} {is : List Nat} (h : tgNames sc N (.Name x p :: r) = some is) : ∃ i js, is = i :: js ∧ idx N x = some i ∧ tgNames sc N r = some js := by
  unfold tgNames at h
  split at h
  · split at h
    · rename_i i js h1 h2
      cases h
      exact ⟨i, js, rfl, h1, h2⟩
    · cases h
  · cases h
theorem tgs_of {X : Cx} {f : Expr → Option CE} (o : Ok X k T) (hN : X.N = N) (s : ScOk sc X.env) (hfn : FnOk1 X sc) (hf : ∀ e c, f e = some c → SndE X T e c) : ∀ {ts : List Expr} {ks : List (Nat × Option CE)}, compTg f sc N ts = some ks → TGsOk X T ts ks
  | [], ks, h => by cases h; exact tgs_nil
  | e :: r, ks, h => by
    unfold compTg at h
    split at h
    · rename_i he; cases he
    · rename_i he
      cases he
      split at h
      · rename_i hl
        obtain ⟨i, h1, h⟩ := ob h
        obtain ⟨ks', h2, h⟩ := om h
        subst h
        exact tgs_name (pg_of o hN s hfn hl h1) (tgs_of o hN s hfn hf h2)
      · cases h
    · rename_i he
      cases he
      split at h
      · rename_i hc
        simp only [okVar, Bool.and_eq_true] at hc
        obtain ⟨⟨c1, c2⟩, c3⟩ := hc
        obtain ⟨c4, c5⟩ := okName_ok c2
        obtain ⟨i, h1, h⟩ := ob h
        obtain ⟨ck, h2, h⟩ := ob h
        obtain ⟨ks', h3, h⟩ := om h
        subst h
        exact tgs_sub o (by rw [hN]; exact idx_ok h1) (vis_of c1 s) c4 c5 (hf _ _ h2) c3 (tgs_of o hN s hfn hf h3)
      · cases h
    · cases h
theorem compS_ok : ∀ (n : Nat) (s : Stmt) (c : CS), compS hint sc N n s = some c → ∀ (X : Cx), Ok X k T → X.N = N → X.env.scope = sc → sc.kind = .function → (∀ y, X.fn y = true) → X.xe = (fun _ _ => False) → SndS X T s c := by
  intro n
  induction n with
  | zero => intro s c h; cases h
  | succ n ih =>
    intro st c h X o hN hs hk hf hx
    have s : ScOk sc X.env := scOk_self hs
    have E := fun e c h => compE_ok (k := k) (T := T) n sc N e c h X o hN s
    have ihS : ∀ s c, compS hint sc N n s = some c → SndS X T s c := fun s c h => ih s c h X o hN hs hk hf hx
    have hfn : FnOk1 X sc := fun x _ => hf x
    unfold compS at h
    split at h
    · exact set_ok o hN hs hk hf h
    · split at h
      · rename_i hc
        simp only [Bool.and_eq_true, okVar] at hc
        obtain ⟨⟨c1, c2⟩, c3⟩ := hc
        obtain ⟨c4, c5⟩ := okName_ok c2
        obtain ⟨i, h1, h⟩ := ob h
        obtain ⟨ck, h2, h⟩ := ob h
        obtain ⟨ce, h3, h⟩ := om h
        subst h
        exact snd_put o (by rw [hN]; exact idx_ok h1) (vis_of c1 s) c4 c5 (E _ _ h2).val (E _ _ h3).val c3
      · cases h
    · split at h
      · rename_i hc
        simp only [okVar, Bool.and_eq_true] at hc
        obtain ⟨c1, c2⟩ := hc
        obtain ⟨c4, c5⟩ := okName_ok c2
        obtain ⟨i, h1, h⟩ := ob h
        obtain ⟨ce, h3, h⟩ := om h
        subst h
        exact snd_setA o (by rw [hN]; exact idx_ok h1) (vis_of c1 s) c4 c5 (E _ _ h3).val
      · cases h
    · split at h
      · obtain ⟨ks, h1, h⟩ := ob h
        obtain ⟨cl, h2, h⟩ := ob h
        split at h
        · rename_i hw
          split at h
          · rename_i hlen
            cases h
            exact snd_puts o (sndL_of (fun e c h => (E e c h).val) h2) (tgs_of o hN s hfn (fun e c h => (E e c h).val) h1) rfl (swS_ok (by rw [hs]; exact hk) (by rw [hs]; exact hw)) rfl hlen.1 hlen.2
          · cases h
        · cases h
      obtain ⟨is, h1, h⟩ := ob h
      obtain ⟨cl, h2, h⟩ := ob h
      have hp := sndP_of (hint := hint) o hN s h2
      split at h
      · rename_i hw
        split at h
        · rename_i hlen
          cases h
          obtain ⟨p1, p2, p3⟩ := pgs_of o hN s hfn h1
          exact snd_parT hp (pg_tup o.calm p1 p2 p3) rfl (swS_ok (by rw [hs]; exact hk) (by rw [hs]; exact hw)) rfl hlen
        · cases h
      · rename_i names hw
        have hw2 := fun (kt kv : Nat) (pt pv : Pos) => swS_ok (X := X) (kt := kt) (kv := kv) (pt := pt) (pv := pv) (by rw [hs]; exact hk) (by rw [hs]; exact hw)
        split at h
        · split at h
          · rename_i hcc
            simp only [Bool.and_eq_true, decide_eq_true_eq, Bool.not_eq_true'] at hcc
            obtain ⟨⟨⟨d1, d2⟩, d3⟩, d4⟩ := hcc
            cases h
            obtain ⟨i, js, rfl, e1, e2⟩ := tg1 h1
            obtain ⟨j, js2, rfl, e3, e4⟩ := tg1 e2
            cases e4
            subst d1
            exact snd_par2 o (by rw [hN]; exact idx_ok e1) (by rw [hN]; exact idx_ok e3) (idx_ne e1 e3 d2) (loc_lookup hs d3) (loc_lookup hs d4) hp (hw2 _ _ _ _)
          · cases h
        · split at h
          · rename_i hcc
            simp only [Bool.and_eq_true, decide_eq_true_eq, Bool.not_eq_true'] at hcc
            obtain ⟨⟨⟨⟨⟨⟨d1, d2⟩, d2'⟩, d2''⟩, d3⟩, d4⟩, d5⟩ := hcc
            cases h
            obtain ⟨i, js, rfl, e1, e2⟩ := tg1 h1
            obtain ⟨j, js2, rfl, e3, e4⟩ := tg1 e2
            obtain ⟨l, js3, rfl, e5, e6⟩ := tg1 e4
            cases e6
            subst d1
            exact snd_par3 o (by rw [hN]; exact idx_ok e1) (by rw [hN]; exact idx_ok e3) (by rw [hN]; exact idx_ok e5) (idx_ne e1 e3 d2) (idx_ne e1 e5 d2') (idx_ne e3 e5 d2'') (loc_lookup hs d3) (loc_lookup hs d4) (loc_lookup hs d5) hp (hw2 _ _ _ _)
          · cases h
        · cases h
      · cases h
    · split at h
      · rename_i hc
        simp only [Bool.and_eq_true, okVar, decide_eq_true_eq] at hc
        obtain ⟨⟨rfl, c1, c2⟩, c3⟩ := hc
        obtain ⟨c4, c5⟩ := okName_ok c2
        obtain ⟨is, h1, h⟩ := ob h
        obtain ⟨i, h2, h⟩ := om h
        subst h
        obtain ⟨p1, p2, p3⟩ := pgs_of o hN s hfn h1
        exact snd_popTo (by rw [hN]; exact idx_ok h2) (vis_of c1 s) c4 c5 (pg_tup o.calm p1 p2 p3) c3 rfl rfl rfl
      · cases h
    · split at h
      · cases h
      · rename_i hc
        simp only [Bool.or_eq_true, not_or, Bool.not_eq_true] at hc
        obtain ⟨is, h1, h⟩ := ob h
        obtain ⟨ce, h2, h⟩ := om h
        subst h
        obtain ⟨p1, p2, p3⟩ := pgs_of o hN s hfn h1
        refine snd_unpack (E _ _ h2).val (pg_tup o.calm p1 p2 p3) (pg_lst o.calm p1 p2 p3) (noSwapSole hc.1) ?_ rfl
        unfold swappedStores
        rename_i e _ _ _ _
        cases e <;> first | rfl | cases hc.2
    · split at h
      · rename_i hc
        simp only [Bool.and_eq_true, okVar, Bool.or_eq_true, decide_eq_true_eq] at hc
        obtain ⟨⟨⟨hm, c1, c2⟩, c3⟩, c4⟩ := hc
        obtain ⟨c5, c6⟩ := okName_ok c2
        obtain ⟨i, h1, h⟩ := ob h
        obtain ⟨ce, h2, h3⟩ := om h
        rename_i m _ _ _ _ _
        by_cases hm2 : m = "append"
        · rw [if_pos hm2] at h3
          subst h3 hm2
          exact snd_app (by rw [hN]; exact idx_ok h1) (vis_of c1 s) c5 c6 (E _ _ h2).val c3 c4
        · rw [if_neg hm2] at h3
          subst h3
          rcases hm with z | z
          · exact absurd z hm2
          · subst z
            exact snd_ext (by rw [hN]; exact idx_ok h1) (vis_of c1 s) c5 c6 (E _ _ h2).val c3 c4
      · cases h
    · split at h
      · cases h
      · rename_i hc
        obtain ⟨ce, h2, h⟩ := om h
        subst h
        exact snd_exp (E _ _ h2).val (noSwapN (Bool.eq_false_iff.mpr hc))
    · split at h
      · split at h
        · obtain ⟨cl, h1, h⟩ := ob h
          split at h
          · cases h
            exact snd_retCell (sndL_of (fun e c h => (E e c h).val) h1) (by assumption)
          · cases h
        · cases h
      · obtain ⟨ce, h2, h⟩ := om h
        subst h
        exact snd_ret (E _ _ h2).val
    · cases h; exact snd_retN
    · obtain ⟨ct, h0, h⟩ := ob h
      obtain ⟨x, h1, h⟩ := ob h
      obtain ⟨y, h2, h⟩ := om h
      subst h
      exact snd_iff (E _ _ h0).tst (sndSs_of ihS h1) (sndSs_of ihS h2)
    · obtain ⟨ci, h1, h⟩ := ob h
      obtain ⟨ct, h2, h⟩ := ob h
      obtain ⟨b, h3, h⟩ := om h
      subst h
      obtain ⟨i1, i2⟩ := sndI_of o s (fun e c h => (E e c h).val) (name_of hN s) h1
      exact snd_loop o hx i1 (tg_of o hN s hfn h2) (sndSs_of ihS h3) (folded_of i2)
    · obtain ⟨ct, h1, h⟩ := ob h
      obtain ⟨b, h3, h⟩ := om h
      subst h
      exact snd_whl hx (E _ _ h1).tst (sndSs_of ihS h3)
    · cases h; exact snd_pass
    · cases h; exact snd_cont
    · cases h; exact snd_stuck
end
end Q

set_option Elab.async false
set_option linter.all false
set_option maxRecDepth 100000
set_option maxHeartbeats 4000000
namespace Q
open PySem PySem.Spec PyProof.Rows L2
/-! ### defs -/
structure TOk (P : Program) (w : World) (K : PySem.W.Frag) (mg : Str → Option Value) (base : Heap) (k : Nat) (T : Tab) : Prop where
  blt : ∀ x ∈ bnames ++ bnames2, mg x = none
  fn : ∀ x m, T.fn x = some m → (∃ f fd ps, mg x = some (.ref f) ∧ PySem.W.keepIn K (.ref f) = true ∧ Binds K fd ps [] ∧ FnG P w K mg base CX0 k f fd ps (spOf K m)) ∨
    ∃ C f fd ps, mg x = some (.ref C) ∧ Mk K C f ∧ Binds K fd ps [] ∧ FnG P w K mg base CX0 k f fd ps (spMk K C m)
  con : ∀ x d, T.con x = some d → isFlat d = true ∧ ∃ u, mg x = some u ∧ RelV (vOf d) u
  fld : ∀ c f, f ∈ T.fld c → Cls K (He.ga K c) ∧ NoAttr K (He.ga K c) f
  prop : ∀ c x m, T.prop c x = some m → ∃ p f fd ps, Cls K (He.ga K c) ∧ PropOf K (He.ga K c) x p f ∧ Binds K fd ps [] ∧ FnG P w K mg base CX0 k f fd ps (spOf K m)
  mth : ∀ c x m, T.mth c x = some m → ∃ f fd ps, Cls K (He.ga K c) ∧ Meth K (He.ga K c) x f ∧ Binds K fd ps [] ∧ FnG P w K mg base CX0 k f fd ps (spOf K m)
def ini (N : List Str) (ds : List D) : List Sl := ds.map .val ++ List.replicate (N.length - ds.length) .un
/-- at the begin of __init__ -/
def iniO (N : List Str) (q : Addr) (c : Str) (ds : List D) : List Sl := .own (.inst q c [] []) :: (ds.map .val ++ List.replicate (N.length - (ds.length + 1)) .un)
def RunsTo (T : Tab) (fuel : Nat) (c : CS) (env : List Sl) (st : Store) (d : D) (st' : Store) : Prop :=
  (∃ env', execS T fuel c env st = some (.rt d, env', st')) ∨ (∃ env', execS T fuel c env st = some (.nx, env', st') ∧ d = .non)
/-- __init__ runs to its end -/
def MakesTo (T : Tab) (fuel : Nat) (c : CS) (N : List Str) (cl : Str) (ds : List D) (st : Store) (ns : List Str) (xs : List D) (st' : Store) : Prop :=
  ∀ q, ∃ env', execS T fuel c (iniO N q cl ds) st = some (.nx, env', st') ∧ env'[0]? = some (.own (.inst q cl ns xs))
section
variable {P : Program} {w : World} {K : PySem.W.Frag} {mg : Str → Option Value} {base : Heap} {k : Nat} {T : Tab}
theorem TOk.mono {k' : Nat} (h : TOk P w K mg base k T) (hk : k ≤ k') : TOk P w K mg base k' T :=
  ⟨h.blt, fun x m e => by
    rcases h.fn x m e with ⟨f, fd, ps, h1, h2, h3, h4⟩ | ⟨C, f, fd, ps, h1, h2, h3, h4⟩
    · exact .inl ⟨f, fd, ps, h1, h2, h3, h4.mono hk⟩
    · exact .inr ⟨C, f, fd, ps, h1, h2, h3, h4.mono hk⟩, h.con, h.fld, fun c x m e => by obtain ⟨p, f, fd, ps, h1, h2, h3, h4⟩ := h.prop c x m e; exact ⟨p, f, fd, ps, h1, h2, h3, h4.mono hk⟩,
    fun c x m e => by obtain ⟨f, fd, ps, h1, h2, h3, h4⟩ := h.mth c x m e; exact ⟨f, fd, ps, h1, h2, h3, h4.mono hk⟩⟩
def Tab.add (T : Tab) (x : Str) (m : FS) : Tab := { T with fn := fun y => if y = x then some m else T.fn y }
def Tab.addProp (T : Tab) (c x : Str) (m : FS) : Tab := { T with prop := fun a y => if a = c ∧ y = x then some m else T.prop a y }
def Tab.addMth (T : Tab) (c x : Str) (m : FS) : Tab := { T with mth := fun a y => if a = c ∧ y = x then some m else T.mth a y }
theorem TOk.addAny {x : Str} {m : FS} (h : TOk P w K mg base k T) (h1 : (∃ f fd ps, mg x = some (.ref f) ∧ PySem.W.keepIn K (.ref f) = true ∧ Binds K fd ps [] ∧ FnG P w K mg base CX0 k f fd ps (spOf K m)) ∨
    ∃ C f fd ps, mg x = some (.ref C) ∧ Mk K C f ∧ Binds K fd ps [] ∧ FnG P w K mg base CX0 k f fd ps (spMk K C m)) : TOk P w K mg base k (T.add x m) :=
  ⟨h.blt, fun y m' e => by
    have e : (if y = x then some m else T.fn y) = some m' := e
    by_cases z : y = x
    · rw [if_pos z] at e
      have e3 : m = m' := Option.some.inj e
      subst e3 z
      exact h1
    · rw [if_neg z] at e
      exact h.fn y m' e, h.con, h.fld, h.prop, h.mth⟩
theorem TOk.add {x : Str} {m : FS} {f : Addr} {fd : FuncData} {ps : List Str} (h : TOk P w K mg base k T) (h1 : mg x = some (.ref f)) (h2 : PySem.W.keepIn K (.ref f) = true) (h3 : Binds K fd ps []) (h4 : FnG P w K mg base CX0 k f fd ps (spOf K m)) : TOk P w K mg base k (T.add x m) :=
  h.addAny (.inl ⟨f, fd, ps, h1, h2, h3, h4⟩)
theorem TOk.addCls {x : Str} {m : FS} {C f : Addr} {fd : FuncData} {ps : List Str} (h : TOk P w K mg base k T) (h1 : mg x = some (.ref C)) (h2 : Mk K C f) (h3 : Binds K fd ps []) (h4 : FnG P w K mg base CX0 k f fd ps (spMk K C m)) : TOk P w K mg base k (T.add x m) :=
  h.addAny (.inr ⟨C, f, fd, ps, h1, h2, h3, h4⟩)
theorem TOk.addProp {c x : Str} {m : FS} {p f : Addr} {fd : FuncData} {ps : List Str} (h : TOk P w K mg base k T) (h1 : Cls K (He.ga K c)) (h2 : PropOf K (He.ga K c) x p f) (h3 : Binds K fd ps []) (h4 : FnG P w K mg base CX0 k f fd ps (spOf K m)) : TOk P w K mg base k (T.addProp c x m) :=
  ⟨h.blt, h.fn, h.con, h.fld, fun a y m' e => by
    have e : (if a = c ∧ y = x then some m else T.prop a y) = some m' := e
    by_cases z : a = c ∧ y = x
    · rw [if_pos z] at e
      have e3 : m = m' := Option.some.inj e
      obtain ⟨rfl, rfl⟩ := z
      subst e3
      exact ⟨p, f, fd, ps, h1, h2, h3, h4⟩
    · rw [if_neg z] at e
      exact h.prop a y m' e, h.mth⟩
theorem TOk.addMth {c x : Str} {m : FS} {f : Addr} {fd : FuncData} {ps : List Str} (h : TOk P w K mg base k T) (h1 : Cls K (He.ga K c)) (h2 : Meth K (He.ga K c) x f) (h3 : Binds K fd ps []) (h4 : FnG P w K mg base CX0 k f fd ps (spOf K m)) : TOk P w K mg base k (T.addMth c x m) :=
  ⟨h.blt, h.fn, h.con, h.fld, h.prop, fun a y m' e => by
    have e : (if a = c ∧ y = x then some m else T.mth a y) = some m' := e
    by_cases z : a = c ∧ y = x
    · rw [if_pos z] at e
      have e3 : m = m' := Option.some.inj e
      obtain ⟨rfl, rfl⟩ := z
      subst e3
      exact ⟨f, fd, ps, h1, h2, h3, h4⟩
    · rw [if_neg z] at e
      exact h.mth a y m' e⟩
theorem ini_val {N : List Str} {ds : List D} {i : Nat} {d : D} (h : (ini N ds)[i]? = some (Sl.val d)) : ds[i]? = some d := by
  unfold ini at h
  by_cases hi : i < ds.length
  · rw [List.getElem?_append_left (by rw [List.length_map]; exact hi), List.getElem?_map] at h
    obtain ⟨x, h1, h2⟩ := om h
    cases h2
    exact h1
  · rw [List.getElem?_append_right (by rw [List.length_map]; omega), List.getElem?_replicate] at h
    split at h <;> cases h
theorem ini_own {N : List Str} {ds : List D} {i : Nat} {d : D} (h : (ini N ds)[i]? = some (Sl.own d)) : False := by
  unfold ini at h
  by_cases hi : i < ds.length
  · rw [List.getElem?_append_left (by rw [List.length_map]; exact hi), List.getElem?_map] at h
    obtain ⟨x, h1, h2⟩ := om h
    cases h2
  · rw [List.getElem?_append_right (by rw [List.length_map]; omega), List.getElem?_replicate] at h
    split at h <;> cases h
theorem sr_ini {F0 Hs H : Hp} {ρ : List Addr} {st : Store} {N : List Str} {ds : List D} {vs : List V} (g : Glob K F0 ρ Hs st H) (r : RepL K ρ Hs ds vs) : SR K F0 ρ Hs st H (ini N ds) (L2.start N vs) := by
  refine ⟨g, ?_, fun i d h => ?_, fun i d h => (ini_own h).elim, fun i j d e a h => (ini_own h).elim⟩
  · unfold ini L2.start
    rw [List.length_append, List.length_append, List.length_map, List.length_map, List.length_replicate, List.length_replicate, r.length]
  · have h1 := ini_val h
    obtain ⟨v, h2, h3⟩ := r.get h1
    refine ⟨v, ?_, h3⟩
    unfold L2.start
    rw [List.getElem?_append_left (by rw [List.length_map]; exact (List.getElem?_eq_some_iff.mp h2).1), List.getElem?_map, h2]; rfl
theorem sr_iniO {F0 Hs H : Hp} {ρ : List Addr} {st : Store} {N : List Str} {ds : List D} {us : List V} {p q : Addr} {c : Str} (g : Glob K F0 ρ Hs st H) (r : RepL K ρ Hs ds us) (hp : H p = some (.ins (He.ga K c) q [])) (h1 : Hs p = none) (h2 : F0 p = none) (h3 : p ∉ ρ) :
    SR K F0 ρ Hs st H (iniO N q c ds) (L2.start N (.ref p :: us)) := by
  have tl : ∀ i, (iniO N q c ds)[i + 1]? = (ds.map Sl.val ++ List.replicate (N.length - (ds.length + 1)) Sl.un)[i]? := fun i => rfl
  have noOwn : ∀ (i : Nat) (d : D), (iniO N q c ds)[i + 1]? = some (Sl.own d) → False := fun i d h => by
    rw [tl] at h
    by_cases hi : i < ds.length
    · rw [List.getElem?_append_left (by rw [List.length_map]; exact hi), List.getElem?_map] at h
      obtain ⟨x, h1, h2⟩ := om h
      cases h2
    · rw [List.getElem?_append_right (by rw [List.length_map]; omega), List.getElem?_replicate] at h
      split at h <;> cases h
  refine ⟨g, ?_, fun i d h => ?_, fun i d h => ?_, fun i j d e a hi hj _ _ => ?_⟩
  · unfold iniO L2.start
    simp only [List.length_cons, List.length_append, List.length_map, List.length_replicate, r.length]
    omega
  · cases i with
    | zero => cases h
    | succ i =>
      rw [tl] at h
      by_cases hi : i < ds.length
      · rw [List.getElem?_append_left (by rw [List.length_map]; exact hi), List.getElem?_map] at h
        obtain ⟨x, z1, z2⟩ := om h
        cases z2
        obtain ⟨v, w1, w2⟩ := r.get z1
        refine ⟨v, ?_, w2⟩
        unfold L2.start
        rw [List.getElem?_append_left (by rw [List.length_map]; have := (List.getElem?_eq_some_iff.mp w1).1; simp only [List.length_cons]; omega), List.getElem?_map, List.getElem?_cons_succ, w1]; rfl
      · rw [List.getElem?_append_right (by rw [List.length_map]; omega), List.getElem?_replicate] at h
        split at h <;> cases h
  · cases i with
    | zero =>
      cases h
      exact ⟨p, _, rfl, hp, ⟨rfl, rfl, [], rfl, rfl, .nil⟩, h1, h2, h3⟩
    | succ i => exact (noOwn i d h).elim
  · cases i with
    | zero => cases j with
      | zero => rfl
      | succ j => exact (noOwn j e hj).elim
    | succ i => exact (noOwn i d hi).elim
/-- THE RULE: a def whose compiled text does what m says -/
theorem fn_def {x qual : Str} {params : Arguments} {body : List Stmt} {scope : Scope} {f : Addr} {fd : FuncData} {N ps : List Str} {hint : Hint} {n : Nat} {c : CS} {m : FS} (TO : TOk P w K mg base k T) (F : FunD K x qual params body scope [] [] f fd) (S : FnScope N ps scope)
    (hc : compSs (compS hint scope N n) body = some c) (hm : ∀ ds st d st', m ds st = some (d, st') → ds.length = ps.length ∧ ∃ fuel, RunsTo T fuel c (ini N ds) st d st') : FnG P w K mg base CX0 (k + 2) f fd ps (spOf K m) := by
  refine FnG.def_ F S (fun vs H Q E h => ?_) (fun cdv A outer s H vs Q E gd hr h => ?_)
  · obtain ⟨F0, ρ, Hs, st, ds, d, st', g, r, e, _⟩ := h
    rw [← r.length]
    exact (hm ds st d st' e).1
  · obtain ⟨F0, ρ, Hs, st, ds, d, st', g, r, e, kq⟩ := h
    obtain ⟨_, fuel, run⟩ := hm ds st d st' e
    refine ⟨_, PSs.nox pss_ev, ?_⟩
    have o : Ok (Cx.nox (cxOf CX0 P w K mg base N qual scope f cdv A outer s H E)) k T := ⟨rfl, S.nd, gd, hr, TO.blt, fun x m e => ⟨TO.fn x m e⟩, TO.con, TO.fld, fun c x m e => ⟨TO.prop c x m e⟩, fun c x m e => ⟨TO.mth c x m e⟩⟩
    have snd : SndSs (Cx.nox (cxOf CX0 P w K mg base N qual scope f cdv A outer s H E)) T body c := sndSs_of (fun st c h => compS_ok n st c h _ o rfl rfl S.kind (fun _ => rfl) rfl) hc
    rcases run with ⟨env', run⟩ | ⟨env', run, rfl⟩
    · exact snd fuel F0 ρ Hs st H (L2.start N vs) _ (sr_ini g r) _ run _ kq
    · exact snd fuel F0 ρ Hs st H (L2.start N vs) _ (sr_ini g r) _ run _ fun σ' H' ρ' Hs' e1 r1 => kq .non H' ρ' Hs' e1 r1.g (Rep.non.mpr rfl)
def InsOk (H : Hp) : Prop := ∀ a C dx fs, H a = some (.ins C dx fs) → H dx = some (.own a)
theorem EvSs.ins {X : Cx} {ss : List Stmt} {Dn : Ends} {σ : L2.St} {H : Hp} (h : EvSs X ss { Dn with nx := fun σ H => InsOk H → Dn.nx σ H } σ H) : EvSs X ss Dn σ H := fun pins s I =>
  wpAny_mono (h pins s I) (fun fl s' q => by
    match fl, q with
    | .ret u, q => exact q
    | .next, ⟨σ', H', J, q⟩ => exact ⟨σ', H', J, q fun a C dx fs e => (J.hok a _ e).1⟩
    | .brk, q => exact q
    | .cont, q => exact q) fun _ _ x => x
/-- the same of __init__ -/
theorem cls_def {x qual cl : Str} {params : Arguments} {body : List Stmt} {scope : Scope} {f : Addr} {fd : FuncData} {N ps : List Str} {hint : Hint} {n : Nat} {c : CS} {m : FS} (TO : TOk P w K mg base k T) (F : FunD K x qual params body scope [] [] f fd) (S : FnScope N ps scope)
    (hc : compSs (compS hint scope N n) body = some c) (hm : ∀ ds st d st', m ds st = some (d, st') → ds.length + 1 = ps.length ∧ ∃ fuel ns xs, d = .obj cl ns xs ∧ MakesTo T fuel c N cl ds st ns xs st') : FnG P w K mg base CX0 (k + 2) f fd ps (spMk K (He.ga K cl) m) := by
  refine FnG.def_ F S (fun vs H Q E h => ?_) (fun cdv A outer s H vs Q E gd hr h => ?_)
  · obtain ⟨F0, ρ, Hs, st, ds, d, st', p, dx, us, rfl, g, _, _, _, _, _, _, _, _, _, r, e, _⟩ := h
    rw [List.length_cons, ← r.length]
    exact (hm ds st d st' e).1
  · obtain ⟨F0, ρ, Hs, st, ds, d, st', p, dx, us, rfl, g, hp, hp1, hp2, hp3, hq, hq1, hq2, hq3, ne, r, e, kq⟩ := h
    obtain ⟨_, fuel, ns, xs, rfl, run⟩ := hm ds st d st' e
    obtain ⟨env', run, h0⟩ := run dx
    refine ⟨_, PSs.nox pss_ev, ?_⟩
    have o : Ok (Cx.nox (cxOf CX0 P w K mg base N qual scope f cdv A outer s H E)) k T := ⟨rfl, S.nd, gd, hr, TO.blt, fun x m e => ⟨TO.fn x m e⟩, TO.con, TO.fld, fun c x m e => ⟨TO.prop c x m e⟩, fun c x m e => ⟨TO.mth c x m e⟩⟩
    have snd : SndSs (Cx.nox (cxOf CX0 P w K mg base N qual scope f cdv A outer s H E)) T body c := sndSs_of (fun st c h => compS_ok n st c h _ o rfl rfl S.kind (fun _ => rfl) rfl) hc
    have g1 : Glob K (upd F0 dx (.own p)) ρ Hs st H := g.hide hq hq1 hq3 fun xs z => by cases z
    have f1 : upd F0 dx (.own p) p = none := by rw [upd_ne (Ne.symm ne)]; exact hp2
    refine EvSs.ins ?_
    refine snd fuel (upd F0 dx (.own p)) ρ Hs st H (L2.start N (.ref p :: us)) _ (sr_iniO g1 r hp hp1 f1 hp3) _ run _ fun σ' H' ρ' Hs' e1 r1 ins => ?_
    obtain ⟨a, u, w1, w2, w3, w4, w5, w6⟩ := r1.own 0 _ h0
    cases u with
    | ins C dx' fs =>
      obtain ⟨rfl, rfl, vs, z1, rfl, z3⟩ := w3
      have e2 := ins a _ _ _ w2
      have e3 := (r1.g.foe dx' _ upd_same).1
      rw [e2] at e3
      cases e3
      have g2 : Glob K F0 ρ' Hs' st' H' := r1.g.show' hq2
      refine kq H' ρ' (upd Hs' p (.ins (He.ga K cl) dx' (ns.zip vs))) (e1.trans (Ext.upd w4)) (g2.freeze w2 w4 (by rw [upd_ne (Ne.symm ne)] at w5; exact w5) w6) (Rep.obj.mpr ⟨p, dx', vs, rfl, z1, upd_same, (Ext.upd w4).repL z3⟩)
    | _ => exact w3.elim
/-- the law's own end -/
theorem law_end {m : FS} {a : Addr} {ns : List Int} {H : Hp} {st' : Store} (hO : Only H) (hS : SqL K H a (ns.map V.int)) (e : m [.scr ns] [] = some (.bl true, st')) : spOf K m [.ref a] H (fun v _ => v = .bl true) E0 := by
  refine ⟨fun _ => none, [], H, [], [.scr ns], .bl true, st', ⟨Sub.refl _, fun b o z => (by cases z), List.nodup_nil, rfl, fun i c z => (by simp at z)⟩, .cons (Rep.scr.mpr ⟨a, rfl, ?_⟩) .nil, e, fun v H' ρ' Hs' _ _ r => Rep.bl.mp r⟩
  rcases hS with (h | ⟨o, h⟩) | h
  · rcases hO a with z | ⟨o, xs, z⟩
    · rw [h] at z; cases z
    · rw [h] at z; cases z
  · exact .inl ⟨o, h⟩
  · exact .inr h
end
end Q

set_option Elab.async false
set_option linter.all false
set_option maxRecDepth 100000
set_option maxHeartbeats 1000000
namespace Q
open PySem PySem.Spec PyProof.Rows L2
theorem loopGo_mono {f g : D → List Sl → Store → RS} (h : ∀ d e s r, f d e s = some r → g d e s = some r) : ∀ {ds : List D} {env : List Sl} {st : Store} {r : Fl × List Sl × Store}, loopGo f ds env st = some r → loopGo g ds env st = some r
  | [], env, st, r, e => e
  | d :: ds, env, st, r, e => by
    unfold loopGo at e ⊢
    cases q : f d env st with
    | none => rw [q] at e; cases e
    | some x =>
      rw [q] at e
      rw [h _ _ _ _ q]
      obtain ⟨fl, e1, s1⟩ := x
      cases fl with
      | nx => exact loopGo_mono h e
      | ct => exact loopGo_mono h e
      | rt d => exact e
theorem whileGo_mono {t : List Sl → Store → Option (Bool × List Sl × Store)} {f g : List Sl → Store → RS} (h : ∀ e s r, f e s = some r → g e s = some r) : ∀ {n m : Nat} {env : List Sl} {st : Store} {r : Fl × List Sl × Store}, n ≤ m → whileGo t f n env st = some r → whileGo t g m env st = some r
  | 0, m, env, st, r, _, e => by cases e
  | n + 1, 0, env, st, r, hl, e => by omega
  | n + 1, m + 1, env, st, r, hl, e => by
    unfold whileGo at e ⊢
    cases q : t env st with
    | none => rw [q] at e; cases e
    | some x =>
      rw [q] at e
      obtain ⟨b, e1, s1⟩ := x
      cases b with
      | false => exact e
      | true =>
        dsimp only at e ⊢
        cases q2 : f e1 s1 with
        | none => rw [q2] at e; cases e
        | some y =>
          rw [q2] at e
          rw [h _ _ _ q2]
          obtain ⟨fl, e2, s2⟩ := y
          cases fl with
          | nx => exact whileGo_mono h (by omega) e
          | ct => exact whileGo_mono h (by omega) e
          | rt d => exact e
theorem execS_mono {T : Tab} {n m : Nat} (hnm : n ≤ m) : ∀ {c : CS} {env : List Sl} {st : Store} {r : Fl × List Sl × Store}, execS T n c env st = some r → execS T m c env st = some r := by
  intro c
  induction c with
  | seq a b iha ihb =>
    intro env st r e
    unfold execS at e ⊢
    obtain ⟨⟨fl, e1, s1⟩, q, e⟩ := ob e
    rw [iha q]
    cases fl with
    | nx => exact ihb e
    | ct => exact e
    | rt d => exact e
  | iff t a b iha ihb =>
    intro env st r e
    unfold execS at e ⊢
    obtain ⟨⟨bb, e1, s1⟩, q, e⟩ := ob e
    rw [q]
    dsimp only [Option.bind] at e ⊢
    cases bb with
    | true => exact iha e
    | false => exact ihb e
  | loop tg it b ih =>
    intro env st r e
    unfold execS at e ⊢
    obtain ⟨⟨xs, s1⟩, q, e⟩ := ob e
    rw [q]
    refine loopGo_mono (fun d e2 s2 r2 h => ?_) e
    obtain ⟨e3, q3, h⟩ := ob h
    rw [q3]
    exact ih h
  | whl t b ih =>
    intro env st r e
    unfold execS at e ⊢
    exact whileGo_mono (fun e2 s2 r2 h => ih h) hnm e
  | _ => intro env st r e; unfold execS at e ⊢; exact e
theorem RunsTo.mono {T : Tab} {n m : Nat} (hnm : n ≤ m) {c : CS} {env : List Sl} {st st' : Store} {d : D} (h : RunsTo T n c env st d st') : RunsTo T m c env st d st' := by
  rcases h with ⟨e, h⟩ | ⟨e, h, z⟩
  · exact .inl ⟨e, execS_mono hnm h⟩
  · exact .inr ⟨e, execS_mono hnm h, z⟩
theorem RunsTo.one {T : Tab} {n : Nat} {c : CS} {env : List Sl} {st s1 s2 : Store} {d1 d2 : D} (h : RunsTo T n c env st d1 s1) (k : RunsTo T n c env st d2 s2) : d1 = d2 ∧ s1 = s2 := by
  rcases h with ⟨e, h⟩ | ⟨e, h, rfl⟩ <;> rcases k with ⟨e', k⟩ | ⟨e', k, rfl⟩
  all_goals (rw [h] at k; cases k)
  · exact ⟨rfl, rfl⟩
  · exact ⟨rfl, rfl⟩
open Classical in
/-- what a text does -/
noncomputable def den (T : Tab) (N : List Str) (np : Nat) (c : CS) : FS := fun ds st =>
  if h : ds.length = np ∧ ∃ p : D × Store, ∃ fuel, RunsTo T fuel c (ini N ds) st p.1 p.2 then some (Classical.choose h.2) else none
open Classical in
noncomputable def denC (T : Tab) (N : List Str) (np : Nat) (cl : Str) (c : CS) : FS := fun ds st =>
  if h : ds.length + 1 = np ∧ ∃ p : (List Str × List D) × Store, ∃ fuel, MakesTo T fuel c N cl ds st p.1.1 p.1.2 p.2 then some (.obj cl (Classical.choose h.2).1.1 (Classical.choose h.2).1.2, (Classical.choose h.2).2) else none
section
variable {T : Tab} {N : List Str} {np : Nat} {c : CS} {ds : List D} {st st' : Store} {d : D} {cl : Str}
theorem den_spec (h : den T N np c ds st = some (d, st')) : ds.length = np ∧ ∃ fuel, RunsTo T fuel c (ini N ds) st d st' := by
  unfold den at h
  split at h
  · rename_i q
    refine ⟨q.1, ?_⟩
    have := Classical.choose_spec q.2
    have e := Option.some.inj h
    rw [e] at this
    exact this
  · cases h
theorem den_runs {fuel : Nat} (hl : ds.length = np) (r : RunsTo T fuel c (ini N ds) st d st') : den T N np c ds st = some (d, st') := by
  have q : ds.length = np ∧ ∃ p : D × Store, ∃ fuel, RunsTo T fuel c (ini N ds) st p.1 p.2 := ⟨hl, (d, st'), fuel, r⟩
  unfold den
  rw [dif_pos q]
  obtain ⟨f2, r2⟩ := Classical.choose_spec q.2
  obtain ⟨z1, z2⟩ := (r.mono (Nat.le_max_left fuel f2)).one (r2.mono (Nat.le_max_right fuel f2))
  congr 1
  exact Prod.ext z1.symm z2.symm
theorem den_rt {fuel : Nat} {env' : List Sl} (hl : ds.length = np) (r : execS T fuel c (ini N ds) st = some (.rt d, env', st')) : den T N np c ds st = some (d, st') := den_runs hl (.inl ⟨env', r⟩)
theorem den_nx {fuel : Nat} {env' : List Sl} (hl : ds.length = np) (r : execS T fuel c (ini N ds) st = some (.nx, env', st')) : den T N np c ds st = some (.non, st') := den_runs hl (.inr ⟨env', r, rfl⟩)
theorem denC_spec (h : denC T N np cl c ds st = some (d, st')) : ds.length + 1 = np ∧ ∃ fuel ns xs, d = .obj cl ns xs ∧ MakesTo T fuel c N cl ds st ns xs st' := by
  unfold denC at h
  split at h
  · rename_i q
    obtain ⟨f, r⟩ := Classical.choose_spec q.2
    have e := Option.some.inj h
    have e1 := congrArg Prod.fst e
    have e2 := congrArg Prod.snd e
    dsimp only at e1 e2
    rw [e2] at r
    exact ⟨q.1, f, _, _, e1.symm, r⟩
  · cases h
theorem denC_makes {fuel : Nat} {ns : List Str} {xs : List D} (hl : ds.length + 1 = np) (r : MakesTo T fuel c N cl ds st ns xs st') : denC T N np cl c ds st = some (.obj cl ns xs, st') := by
  have q : ds.length + 1 = np ∧ ∃ p : (List Str × List D) × Store, ∃ fuel, MakesTo T fuel c N cl ds st p.1.1 p.1.2 p.2 := ⟨hl, ((ns, xs), st'), fuel, r⟩
  unfold denC
  rw [dif_pos q]
  obtain ⟨f2, r2⟩ := Classical.choose_spec q.2
  obtain ⟨e1, h1, h2⟩ := r 0
  obtain ⟨e2, k1, k2⟩ := r2 0
  have h1' := execS_mono (Nat.le_max_left fuel f2) h1
  have k1' := execS_mono (Nat.le_max_right fuel f2) k1
  rw [h1'] at k1'
  injection k1' with k1'
  injection k1' with _ k1'
  injection k1' with z1 z2
  rw [← z1, h2] at k2
  injection k2 with k2
  injection k2 with k2
  injection k2 with _ _ z3 z4
  rw [← z2, ← z3, ← z4]
end
section
variable {P : Program} {w : World} {K : PySem.W.Frag} {mg : Str → Option Value} {base : Heap} {k : Nat} {T : Tab}
theorem fn_den {x qual : Str} {params : Arguments} {body : List Stmt} {scope : Scope} {f : Addr} {fd : FuncData} {N ps : List Str} {hint : Hint} {n : Nat} {c : CS} (TO : TOk P w K mg base k T) (F : FunD K x qual params body scope [] [] f fd) (S : FnScope N ps scope)
    (hc : compSs (compS hint scope N n) body = some c) : FnG P w K mg base CX0 (k + 2) f fd ps (spOf K (den T N ps.length c)) := fn_def TO F S hc fun ds st d st' h => den_spec h
theorem cls_den {x qual cl : Str} {params : Arguments} {body : List Stmt} {scope : Scope} {f : Addr} {fd : FuncData} {N ps : List Str} {hint : Hint} {n : Nat} {c : CS} (TO : TOk P w K mg base k T) (F : FunD K x qual params body scope [] [] f fd) (S : FnScope N ps scope)
    (hc : compSs (compS hint scope N n) body = some c) : FnG P w K mg base CX0 (k + 2) f fd ps (spMk K (He.ga K cl) (denC T N ps.length cl c)) := cls_def TO F S hc fun ds st d st' h => denC_spec h
end
/-! ### what a table has -/
def Has (T : Tab) (f : Str) (P : FS → Prop) : Prop := ∃ m, T.fn f = some m ∧ P m
def HasP (T : Tab) (c f : Str) (P : FS → Prop) : Prop := ∃ m, T.prop c f = some m ∧ P m
def HasM (T : Tab) (c f : Str) (P : FS → Prop) : Prop := ∃ m, T.mth c f = some m ∧ P m
section
variable {T : Tab} {f x c y : Str} {P : FS → Prop} {m : FS}
theorem Has.add (h : Has T f P) (ne : f ≠ x) : Has (T.add x m) f P := by
  obtain ⟨m', h1, h2⟩ := h
  exact ⟨m', by show (if f = x then some m else T.fn f) = _; rw [if_neg ne]; exact h1, h2⟩
theorem Has.new (h : P m) : Has (T.add x m) x P := ⟨m, by show (if x = x then some m else T.fn x) = _; rw [if_pos rfl], h⟩
theorem Has.addP (h : Has T f P) : Has (T.addProp c x m) f P := h
theorem Has.addM (h : Has T f P) : Has (T.addMth c x m) f P := h
theorem HasP.add (h : HasP T c f P) : HasP (T.add x m) c f P := h
theorem HasP.addM {c' : Str} (h : HasP T c f P) : HasP (T.addMth c' x m) c f P := h
theorem HasP.addP {c' : Str} (h : HasP T c f P) (ne : ¬ (c = c' ∧ f = x)) : HasP (T.addProp c' x m) c f P := by
  obtain ⟨m', h1, h2⟩ := h
  exact ⟨m', by show (if c = c' ∧ f = x then some m else T.prop c f) = _; rw [if_neg ne]; exact h1, h2⟩
theorem HasP.new (h : P m) : HasP (T.addProp c x m) c x P := ⟨m, by show (if c = c ∧ x = x then some m else T.prop c x) = _; rw [if_pos ⟨rfl, rfl⟩], h⟩
theorem HasM.add (h : HasM T c f P) : HasM (T.add x m) c f P := h
theorem HasM.addP {c' : Str} (h : HasM T c f P) : HasM (T.addProp c' x m) c f P := h
theorem HasM.addM {c' : Str} (h : HasM T c f P) (ne : ¬ (c = c' ∧ f = x)) : HasM (T.addMth c' x m) c f P := by
  obtain ⟨m', h1, h2⟩ := h
  exact ⟨m', by show (if c = c' ∧ f = x then some m else T.mth c f) = _; rw [if_neg ne]; exact h1, h2⟩
theorem HasM.new (h : P m) : HasM (T.addMth c x m) c x P := ⟨m, by show (if c = c ∧ x = x then some m else T.mth c x) = _; rw [if_pos ⟨rfl, rfl⟩], h⟩
end
end Q

set_option Elab.async false
set_option linter.all false
set_option maxRecDepth 100000
set_option maxHeartbeats 1000000
namespace Q
open PySem PySem.Spec PyProof.Rows L2
/-! ### running texts, rule by rule -/
def vS (m : List Nat) (k : Nat) : Sl → Option D
  | .un => none
  | .val d => some d
  | .own d => bif m.elem k then some d else none
def vF (m : List Nat) : Nat → List Sl → List (Option D)
  | _, [] => []
  | k, s :: r => vS m k s :: vF m (k + 1) r
def sS1 (ds : List D) : Sl → Sl
  | .own o => bif backs o ds then .own o else .val o
  | s => s
def sS (m : List Nat) (ds : List D) (k : Nat) (s : Sl) : Sl := bif m.elem k then sS1 ds s else s
def sF (m : List Nat) (ds : List D) : Nat → List Sl → List Sl
  | _, [] => []
  | k, s :: r => sS m ds k s :: sF m ds (k + 1) r
theorem vS_eq (m : List Nat) (k : Nat) (s : Sl) : viewS m k s = vS m k s := by
  cases s with
  | own d =>
    show (if k ∈ m then some d else none) = (bif m.elem k then some d else none)
    by_cases h : k ∈ m
    · rw [if_pos h, List.elem_eq_true_of_mem h]; rfl
    · rw [if_neg h]
      have : m.elem k = false := by
        cases e : m.elem k with
        | false => rfl
        | true => exact absurd (List.mem_of_elem_eq_true e) h
      rw [this]; rfl
  | _ => rfl
theorem sS_eq (m : List Nat) (ds : List D) (k : Nat) (s : Sl) : settleS m ds k s = sS m ds k s := by
  unfold sS
  cases e : m.elem k with
  | true =>
    cases s with
    | own d =>
      show (if k ∈ m ∧ backs d ds = false then Sl.val d else Sl.own d) = (bif backs d ds then Sl.own d else Sl.val d)
      cases eb : backs d ds with
      | true => rw [if_neg (fun z => by cases z.2)]; rfl
      | false => rw [if_pos ⟨List.mem_of_elem_eq_true e, rfl⟩]; rfl
    | _ => rfl
  | false =>
    cases s with
    | own d =>
      show (if k ∈ m ∧ backs d ds = false then Sl.val d else Sl.own d) = Sl.own d
      rw [if_neg]
      rintro ⟨h, _⟩
      rw [List.elem_eq_true_of_mem h] at e
      cases e
    | _ => rfl
theorem mapIdx_go {α β : Type} (f : Nat → α → β) : ∀ (l : List α) (k : Nat), (l.mapIdx fun i => f (i + k)) = (match l with | [] => [] | x :: r => f k x :: (r.mapIdx fun i => f (i + (k + 1))))
  | [], k => rfl
  | x :: r, k => by
    rw [List.mapIdx_cons]
    congr 1
    · rw [Nat.zero_add]
    · congr 1
      funext i
      rw [Nat.add_assoc, Nat.add_comm 1 k]
theorem vF_eq (m : List Nat) : ∀ (env : List Sl) (k : Nat), (env.mapIdx fun i => viewS m (i + k)) = vF m k env
  | [], k => rfl
  | s :: r, k => by
    rw [mapIdx_go]
    show viewS m k s :: (r.mapIdx fun i => viewS m (i + (k + 1))) = _
    rw [vF, vF_eq m r (k + 1), vS_eq]
theorem sF_eq (m : List Nat) (ds : List D) : ∀ (env : List Sl) (k : Nat), (env.mapIdx fun i => settleS m ds (i + k)) = sF m ds k env
  | [], k => rfl
  | s :: r, k => by
    rw [mapIdx_go]
    show settleS m ds k s :: (r.mapIdx fun i => settleS m ds (i + (k + 1))) = _
    rw [sF, sF_eq m ds r (k + 1), sS_eq]
theorem view_eq (m : List Nat) (env : List Sl) : view m env = vF m 0 env := vF_eq m env 0
theorem settle_eq (m : List Nat) (ds : List D) (env : List Sl) : settle m ds env = sF m ds 0 env := sF_eq m ds env 0

def Pr {α : Type} (o : Option α) (Q : α → Prop) : Prop := ∃ d, o = some d ∧ Q d
def Cl (m : FS) (ds : List D) (st : Store) (Q : D → Store → Prop) : Prop := ∃ d s, m ds st = some (d, s) ∧ Q d s
def Ee (T : Tab) (c : CE) (env : List (Option D)) (st : Store) (Q : D → Store → Prop) : Prop := ∃ d s, evalE T c env st = some (d, s) ∧ Q d s
def El (T : Tab) (c : CL) (env : List (Option D)) (st : Store) (Q : List D → Store → Prop) : Prop := ∃ d s, evalL T c env st = some (d, s) ∧ Q d s
def Eo (T : Tab) (c : CO) (env : List (Option D)) (st : Store) (Q : Option Int → Store → Prop) : Prop := ∃ d s, evalO T c env st = some (d, s) ∧ Q d s
def Eb (T : Tab) (c : CO) (env : List (Option D)) (st : Store) (Q : Bool → Store → Prop) : Prop := ∃ d s, evalB T c env st = some (d, s) ∧ Q d s
def Ei (T : Tab) (c : CI) (env : List (Option D)) (st : Store) (Q : List D → Store → Prop) : Prop := ∃ d s, evalI T c env st = some (d, s) ∧ Q d s
def Ex (T : Tab) (c : CS) (env : List Sl) (st : Store) (Q : Fl × List Sl × Store → Prop) : Prop := ∃ n r, execS T n c env st = some r ∧ Q r
section
variable {T : Tab} {env : List (Option D)} {st : Store} {Q : D → Store → Prop} {QL : List D → Store → Prop}
theorem Ee.mono {c : CE} {Q' : D → Store → Prop} (h : Ee T c env st Q) (k : ∀ d s, Q d s → Q' d s) : Ee T c env st Q' := by obtain ⟨d, s, e, q⟩ := h; exact ⟨d, s, e, k _ _ q⟩
theorem Cl.mono {m : FS} {ds : List D} {Q' : D → Store → Prop} (h : Cl m ds st Q) (k : ∀ d s, Q d s → Q' d s) : Cl m ds st Q' := by obtain ⟨d, s, e, q⟩ := h; exact ⟨d, s, e, k _ _ q⟩
theorem Pr.of {α : Type} {o : Option α} {d : α} {Q : α → Prop} (e : o = some d) (h : Q d) : Pr o Q := ⟨d, e, h⟩
theorem Pr.some {α : Type} {d : α} {Q : α → Prop} (h : Q d) : Pr (some d) Q := ⟨d, rfl, h⟩
theorem Pr.map {α β : Type} {o : Option α} {f : α → β} {Q : β → Prop} (h : Pr o fun x => Q (f x)) : Pr (o.map f) Q := by obtain ⟨d, e, q⟩ := h; exact ⟨f d, by rw [e]; rfl, q⟩
theorem Pr.bind {α β : Type} {o : Option α} {f : α → Option β} {Q : β → Prop} (h : Pr o fun x => Pr (f x) Q) : Pr (o.bind f) Q := by obtain ⟨d, e, x, e2, q⟩ := h; exact ⟨x, by rw [e]; exact e2, q⟩
theorem Pr.ite {α : Type} {c : Prop} [Decidable c] {o p : Option α} {Q : α → Prop} (hc : c) (h : Pr o Q) : Pr (if c then o else p) Q := by rw [if_pos hc]; exact h
theorem Pr.itn {α : Type} {c : Prop} [Decidable c] {o p : Option α} {Q : α → Prop} (hc : ¬ c) (h : Pr p Q) : Pr (if c then o else p) Q := by rw [if_neg hc]; exact h
theorem Ee.var {i : Nat} {d : D} (e : env[i]? = some (some d)) (h : Q d st) : Ee T (.var i) env st Q := ⟨d, st, by simp only [evalE, evalL, evalO, evalB, evalI, e, Option.bind_some, Option.map_some, if_true, if_false, Bool.false_eq_true], h⟩
theorem Ee.con {x : Str} {d : D} (e : T.con x = some d) (h : Q d st) : Ee T (.con x) env st Q := ⟨d, st, by simp only [evalE, evalL, evalO, evalB, evalI, e, Option.bind_some, Option.map_some, if_true, if_false, Bool.false_eq_true], h⟩
theorem Ee.int {i : Int} (h : Q (.int i) st) : Ee T (.int i) env st Q := ⟨_, st, by simp only [evalE, evalL, evalO, evalB, evalI, Option.bind_some, Option.map_some, if_true, if_false, Bool.false_eq_true], h⟩
theorem Ee.bl {i : Bool} (h : Q (.bl i) st) : Ee T (.bl i) env st Q := ⟨_, st, by simp only [evalE, evalL, evalO, evalB, evalI, Option.bind_some, Option.map_some, if_true, if_false, Bool.false_eq_true], h⟩
theorem Ee.str {i : Str} (h : Q (.str i) st) : Ee T (.str i) env st Q := ⟨_, st, by simp only [evalE, evalL, evalO, evalB, evalI, Option.bind_some, Option.map_some, if_true, if_false, Bool.false_eq_true], h⟩
theorem Ee.non (h : Q .non st) : Ee T .non env st Q := ⟨_, st, by simp only [evalE, evalL, evalO, evalB, evalI, Option.bind_some, Option.map_some, if_true, if_false, Bool.false_eq_true], h⟩
theorem El.nil (h : QL [] st) : El T .nil env st QL := ⟨[], st, by simp only [evalE, evalL, evalO, evalB, evalI, Option.bind_some, Option.map_some, if_true, if_false, Bool.false_eq_true], h⟩
theorem El.cons {c : CE} {cl : CL} (h : Ee T c env st fun x s => El T cl env s fun r s => QL (x :: r) s) : El T (.cons c cl) env st QL := by
  obtain ⟨d, s, e, r, s2, e2, q⟩ := h
  exact ⟨d :: r, s2, by simp only [evalE, evalL, evalO, evalB, evalI, e, e2, Option.bind_some, Option.map_some, if_true, if_false, Bool.false_eq_true], q⟩
theorem Ee.tup {cl : CL} (h : El T cl env st fun xs s => Q (.tup xs) s) : Ee T (.tup cl) env st Q := by
  obtain ⟨d, s, e, q⟩ := h
  exact ⟨_, s, by simp only [evalE, evalL, evalO, evalB, evalI, e, Option.bind_some, Option.map_some, if_true, if_false, Bool.false_eq_true], q⟩
theorem Ee.lst {cl : CL} (h : El T cl env st fun xs s => Q (.lst xs) s) : Ee T (.lst cl) env st Q := by
  obtain ⟨d, s, e, q⟩ := h
  exact ⟨_, s, by simp only [evalE, evalL, evalO, evalB, evalI, e, Option.bind_some, Option.map_some, if_true, if_false, Bool.false_eq_true], q⟩
theorem Ee.dct {a b : CE} (h : Ee T a env st fun x s => Ee T b env s fun y s => Pr (keyOf x) fun k => Q (.dK [k] [y]) s) : Ee T (.dct a b) env st Q := by
  obtain ⟨x, s, e, y, s2, e2, k, e3, q⟩ := h
  exact ⟨_, s2, by simp only [evalE, evalL, evalO, evalB, evalI, e, e2, e3, Option.bind_some, Option.map_some, if_true, if_false, Bool.false_eq_true], q⟩
theorem Ee.dnewT (h : Q (.dT [] []) st) : Ee T (.dnew true) env st Q := ⟨_, st, by simp only [evalE, evalL, evalO, evalB, evalI, Option.bind_some, Option.map_some, if_true, if_false, Bool.false_eq_true], h⟩
theorem Ee.dnewK (h : Q (.dK [] []) st) : Ee T (.dnew false) env st Q := ⟨_, st, by simp only [evalE, evalL, evalO, evalB, evalI, Option.bind_some, Option.map_some, if_true, if_false, Bool.false_eq_true], h⟩
theorem Ee.bin {op : Operator} {a b : CE} (h : Ee T a env st fun x s => Ee T b env s fun y s => Pr (binD op x y) fun d => Q d s) : Ee T (.bin op a b) env st Q := by
  obtain ⟨x, s, e, y, s2, e2, k, e3, q⟩ := h
  exact ⟨_, s2, by simp only [evalE, evalL, evalO, evalB, evalI, e, e2, e3, Option.bind_some, Option.map_some, if_true, if_false, Bool.false_eq_true], q⟩
theorem Ee.neg {a : CE} (h : Ee T a env st fun x s => ∃ i, x = .int i ∧ Q (.int (-i)) s) : Ee T (.neg a) env st Q := by
  obtain ⟨x, s, e, i, rfl, q⟩ := h
  exact ⟨_, s, by simp only [evalE, evalL, evalO, evalB, evalI, e, Option.bind_some, Option.map_some, if_true, if_false, Bool.false_eq_true], q⟩
theorem Ee.cmp {op : CmpOp} {a b : CE} (h : Ee T a env st fun x s => Ee T b env s fun y s => Pr (cmpD op x y) fun d => Q (.bl d) s) : Ee T (.cmp op a b) env st Q := by
  obtain ⟨x, s, e, y, s2, e2, k, e3, q⟩ := h
  exact ⟨_, s2, by simp only [evalE, evalL, evalO, evalB, evalI, e, e2, e3, Option.bind_some, Option.map_some, if_true, if_false, Bool.false_eq_true], q⟩
theorem Ee.chain {o1 o2 : CmpOp} {a b c : CE} (h : Ee T a env st fun x s => Ee T b env s fun y s => Pr (cmpD o1 x y) fun d => (d = true → Ee T c env s fun z s => Pr (cmpD o2 y z) fun d => Q (.bl d) s) ∧ (d = false → Q (.bl false) s)) : Ee T (.chain o1 o2 a b c) env st Q := by
  obtain ⟨x, s, e, y, s2, e2, k, e3, q1, q2⟩ := h
  cases k with
  | true =>
    obtain ⟨z, s3, e4, d, e5, q⟩ := q1 rfl
    refine ⟨_, s3, ?_, q⟩
    simp only [evalE, e, e2, e3, e4, e5, Option.bind_some, Option.map_some, if_true]
  | false =>
    refine ⟨_, s2, ?_, q2 rfl⟩
    simp only [evalE, e, e2, e3, Option.bind_some, Bool.false_eq_true, if_false]
theorem Ee.and {a b : CE} (h : Ee T a env st fun x s => ∃ k, x = .bl k ∧ (k = true → Ee T b env s Q) ∧ (k = false → Q (.bl false) s)) : Ee T (.and a b) env st Q := by
  obtain ⟨x, s, e, k, rfl, q1, q2⟩ := h
  cases k with
  | true => obtain ⟨d, s2, e2, q⟩ := q1 rfl; exact ⟨d, s2, by simp only [evalE, evalL, evalO, evalB, evalI, e, e2, Option.bind_some, Option.map_some, if_true, if_false, Bool.false_eq_true], q⟩
  | false => exact ⟨_, s, by simp only [evalE, evalL, evalO, evalB, evalI, e, Option.bind_some, Option.map_some, if_true, if_false, Bool.false_eq_true], q2 rfl⟩
theorem Ee.or {a b : CE} (h : Ee T a env st fun x s => ∃ k, x = .bl k ∧ (k = false → Ee T b env s Q) ∧ (k = true → Q (.bl true) s)) : Ee T (.or a b) env st Q := by
  obtain ⟨x, s, e, k, rfl, q1, q2⟩ := h
  cases k with
  | false => obtain ⟨d, s2, e2, q⟩ := q1 rfl; exact ⟨d, s2, by simp only [evalE, evalL, evalO, evalB, evalI, e, e2, Option.bind_some, Option.map_some, if_true, if_false, Bool.false_eq_true], q⟩
  | true => exact ⟨_, s, by simp only [evalE, evalL, evalO, evalB, evalI, e, Option.bind_some, Option.map_some, if_true, if_false, Bool.false_eq_true], q2 rfl⟩
theorem Ee.not {a : CE} (h : Ee T a env st fun x s => ∃ k, x = .bl k ∧ Q (.bl (!k)) s) : Ee T (.not a) env st Q := by
  obtain ⟨x, s, e, k, rfl, q⟩ := h
  exact ⟨_, s, by simp only [evalE, evalL, evalO, evalB, evalI, e, Option.bind_some, Option.map_some, if_true, if_false, Bool.false_eq_true], q⟩
theorem Ee.ife {t a b : CE} (h : Ee T t env st fun x s => ∃ k, x = .bl k ∧ (k = true → Ee T a env s Q) ∧ (k = false → Ee T b env s Q)) : Ee T (.ife t a b) env st Q := by
  obtain ⟨x, s, e, k, rfl, q1, q2⟩ := h
  cases k with
  | true => obtain ⟨d, s2, e2, q⟩ := q1 rfl; exact ⟨d, s2, by simp only [evalE, evalL, evalO, evalB, evalI, e, e2, Option.bind_some, Option.map_some, if_true, if_false, Bool.false_eq_true], q⟩
  | false => obtain ⟨d, s2, e2, q⟩ := q2 rfl; exact ⟨d, s2, by simp only [evalE, evalL, evalO, evalB, evalI, e, e2, Option.bind_some, Option.map_some, if_true, if_false, Bool.false_eq_true], q⟩
theorem Ee.sub {a b : CE} (h : Ee T a env st fun x s => Ee T b env s fun y s => Pr (subD s x y) fun d => Q d s) : Ee T (.sub a b) env st Q := by
  obtain ⟨x, s, e, y, s2, e2, k, e3, q⟩ := h
  exact ⟨_, s2, by simp only [evalE, evalL, evalO, evalB, evalI, e, e2, e3, Option.bind_some, Option.map_some, if_true, if_false, Bool.false_eq_true], q⟩
theorem Eo.no {QO : Option Int → Store → Prop} (h : QO none st) : Eo T .no env st QO := ⟨none, st, by simp only [evalE, evalL, evalO, evalB, evalI, Option.bind_some, Option.map_some, if_true, if_false, Bool.false_eq_true], h⟩
theorem Eo.yes {c : CE} {QO : Option Int → Store → Prop} (h : Ee T c env st fun x s => ∃ i, x = .int i ∧ QO (some i) s) : Eo T (.yes c) env st QO := by
  obtain ⟨x, s, e, i, rfl, q⟩ := h
  exact ⟨some i, s, by simp only [evalE, evalL, evalO, evalB, evalI, e, Option.bind_some, Option.map_some, if_true, if_false, Bool.false_eq_true], q⟩
theorem Eb.no {QB : Bool → Store → Prop} (h : QB true st) : Eb T .no env st QB := ⟨true, st, by simp only [evalE, evalL, evalO, evalB, evalI, Option.bind_some, Option.map_some, if_true, if_false, Bool.false_eq_true], h⟩
theorem Eb.yes {c : CE} {QB : Bool → Store → Prop} (h : Ee T c env st fun x s => ∃ i, x = .bl i ∧ QB i s) : Eb T (.yes c) env st QB := by
  obtain ⟨x, s, e, i, rfl, q⟩ := h
  exact ⟨i, s, by simp only [evalE, evalL, evalO, evalB, evalI, e, Option.bind_some, Option.map_some, if_true, if_false, Bool.false_eq_true], q⟩
theorem Ee.slice {a : CE} {lo hi : CO} (h : Ee T a env st fun x s => Eo T lo env s fun l s => Eo T hi env s fun u s => Pr (sliceD x l u) fun d => Q d s) : Ee T (.slice a lo hi) env st Q := by
  obtain ⟨x, s, e, y, s2, e2, z, s3, e4, k, e3, q⟩ := h
  exact ⟨_, s3, by simp only [evalE, evalL, evalO, evalB, evalI, e, e2, e4, e3, Option.bind_some, Option.map_some, if_true, if_false, Bool.false_eq_true], q⟩
theorem Ee.rev {a : CE} (h : Ee T a env st fun x s => Pr (revD x) fun d => Q d s) : Ee T (.rev a) env st Q := by
  obtain ⟨x, s, e, k, e3, q⟩ := h
  exact ⟨_, s, by simp only [evalE, evalL, evalO, evalB, evalI, e, e3, Option.bind_some, Option.map_some, if_true, if_false, Bool.false_eq_true], q⟩
theorem Ee.sortset {a : CE} (h : Ee T a env st fun x s => Pr (sortSetD x) fun d => Q d s) : Ee T (.sortset a) env st Q := by
  obtain ⟨x, s, e, k, e3, q⟩ := h
  exact ⟨_, s, by simp only [evalE, evalL, evalO, evalB, evalI, e, e3, Option.bind_some, Option.map_some, if_true, if_false, Bool.false_eq_true], q⟩
theorem Ee.isi {a : CE} {c : Str} (h : Ee T a env st fun x s => Pr (isiD x c) fun b => Q (.bl b) s) : Ee T (.isi a c) env st Q := by
  obtain ⟨x, s, e, k, e3, q⟩ := h
  exact ⟨_, s, by simp only [evalE, evalL, evalO, evalB, evalI, e, e3, Option.bind_some, Option.map_some, if_true, if_false, Bool.false_eq_true], q⟩
theorem Ee.call {f : Str} {cl : CL} {m : FS} (hf : T.fn f = some m) (h : El T cl env st fun ds s => Cl m ds s Q) : Ee T (.call f cl) env st Q := by
  obtain ⟨ds, s, e, d, s2, e2, q⟩ := h
  exact ⟨d, s2, by simp only [evalE, evalL, evalO, evalB, evalI, hf, e, e2, Option.bind_some, Option.map_some, if_true, if_false, Bool.false_eq_true], q⟩
theorem Ee.callH {f : Str} {cl : CL} {P : FS → Prop} (hf : Has T f P) (h : ∀ m, P m → El T cl env st fun ds s => Cl m ds s Q) : Ee T (.call f cl) env st Q := by
  obtain ⟨m, e, p⟩ := hf
  exact Ee.call e (h m p)
theorem Ee.blt {f : Str} {cl : CL} (h : El T cl env st fun ds s => Pr (bltD f ds) fun d => Q d s) : Ee T (.blt f cl) env st Q := by
  obtain ⟨ds, s, e, d, e2, q⟩ := h
  exact ⟨d, s, by simp only [evalE, evalL, evalO, evalB, evalI, e, e2, Option.bind_some, Option.map_some, if_true, if_false, Bool.false_eq_true], q⟩
theorem Ee.attr {a : CE} {m : Str} (h : Ee T a env st fun x s => ∃ c ns xs, x = .obj c ns xs ∧ m ∈ T.fld c ∧ Pr (valD ns xs m) fun d => Q d s) : Ee T (.attr a m) env st Q := by
  obtain ⟨x, s, e, c, ns, xs, rfl, hm, d, e2, q⟩ := h
  exact ⟨d, s, by simp only [evalE, evalL, evalO, evalB, evalI, e, if_pos hm, e2, Option.bind_some, Option.map_some, if_true, if_false, Bool.false_eq_true], q⟩
theorem Ee.prop {a : CE} {m : Str} (h : Ee T a env st fun x s => ∃ c ns xs f, x = .obj c ns xs ∧ m ∉ T.fld c ∧ T.prop c m = some f ∧ Cl f [.obj c ns xs] s Q) : Ee T (.attr a m) env st Q := by
  obtain ⟨x, s, e, c, ns, xs, f, rfl, hm, hf, d, s2, e2, q⟩ := h
  exact ⟨d, s2, by simp only [evalE, evalL, evalO, evalB, evalI, e, if_neg hm, hf, e2, Option.bind_some, Option.map_some, if_true, if_false, Bool.false_eq_true], q⟩
theorem Ee.meth {a : CE} {m : Str} {cl : CL} (h : Ee T a env st fun x s => ∃ c ns xs f, x = .obj c ns xs ∧ m ∉ ns ∧ T.mth c m = some f ∧ El T cl env s fun ds s => Cl f (.obj c ns xs :: ds) s Q) : Ee T (.mcall a m cl) env st Q := by
  obtain ⟨x, s, e, c, ns, xs, f, rfl, hm, hf, ds, s2, e2, d, s3, e3, q⟩ := h
  exact ⟨d, s3, by simp only [evalE, evalL, evalO, evalB, evalI, e, if_neg hm, hf, e2, e3, Option.bind_some, Option.map_some, if_true, if_false, Bool.false_eq_true], q⟩
def notObj : D → Bool
  | .obj _ _ _ => false
  | _ => true
theorem Ee.mcall {a : CE} {m : Str} {cl : CL} (h : Ee T a env st fun x s => notObj x = true ∧ El T cl env s fun ds s => Pr (methD m x ds) fun d => Q d s) : Ee T (.mcall a m cl) env st Q := by
  obtain ⟨x, s, e, hn, ds, s2, e2, d, e3, q⟩ := h
  refine ⟨d, s2, ?_, q⟩
  unfold evalE
  rw [e]
  show (match x with | .obj c ns _ => _ | _ => _) = _
  cases x with
  | obj _ _ _ => cases hn
  | _ => show Option.bind _ _ = _; rw [e2]; show Option.map _ _ = _; rw [e3]; rfl
theorem Ei.ex {c : CE} (hv : isVar c = false) (h : Ee T c env st fun x s => Pr (itemsOf x) fun xs => QL xs s) : Ei T (.ex c) env st QL := by
  obtain ⟨x, s, e, xs, e2, q⟩ := h
  exact ⟨xs, s, by simp only [evalE, evalL, evalO, evalB, evalI, e, hv, e2, Option.bind_some, Option.map_some, if_true, if_false, Bool.false_eq_true], q⟩
theorem Ei.exv {i : Nat} (h : Ee T (.var i) env st fun x s => Pr (keysD x) fun xs => QL xs s) : Ei T (.ex (.var i)) env st QL := by
  obtain ⟨x, s, e, xs, e2, q⟩ := h
  exact ⟨xs, s, by unfold evalI; rw [e]; show Option.map _ (keysD x) = _; rw [e2]; rfl, q⟩
theorem Ei.rng1 {c : CE} (h : Ee T c env st fun x s => ∃ i, x = .int i ∧ Pr (rngD 0 i) fun xs => QL xs s) : Ei T (.rng1 c) env st QL := by
  obtain ⟨x, s, e, i, rfl, xs, e2, q⟩ := h
  exact ⟨xs, s, by simp only [evalE, evalL, evalO, evalB, evalI, e, e2, Option.bind_some, Option.map_some, if_true, if_false, Bool.false_eq_true], q⟩
theorem Ei.rng2 {a b : CE} (h : Ee T a env st fun x s => Ee T b env s fun y s => ∃ i j, x = .int i ∧ y = .int j ∧ Pr (rngD i j) fun xs => QL xs s) : Ei T (.rng2 a b) env st QL := by
  obtain ⟨x, s, e, y, s2, e2, i, j, rfl, rfl, xs, e3, q⟩ := h
  exact ⟨xs, s2, by simp only [evalE, evalL, evalO, evalB, evalI, e, e2, e3, Option.bind_some, Option.map_some, if_true, if_false, Bool.false_eq_true], q⟩
theorem Ei.enum {c : CE} (h : Ee T c env st fun x s => ∃ xs, (x = .lst xs ∨ x = .tup xs) ∧ QL (enumD xs) s) : Ei T (.enum c) env st QL := by
  obtain ⟨x, s, e, xs, rfl | rfl, q⟩ := h
  · exact ⟨_, s, by simp only [evalE, evalL, evalO, evalB, evalI, e, Option.bind_some, Option.map_some, if_true, if_false, Bool.false_eq_true], q⟩
  · exact ⟨_, s, by simp only [evalE, evalL, evalO, evalB, evalI, e, Option.bind_some, Option.map_some, if_true, if_false, Bool.false_eq_true], q⟩
theorem Ei.zip {a b : CE} (h : Ee T a env st fun x s => Ee T b env s fun y s => ∃ xs ys, ((x = .lst xs ∧ y = .lst ys) ∨ (x = .tup xs ∧ y = .tup ys)) ∧ QL (zipDD xs ys) s) : Ei T (.zip a b) env st QL := by
  obtain ⟨x, s, e, y, s2, e2, xs, ys, ⟨rfl, rfl⟩ | ⟨rfl, rfl⟩, q⟩ := h
  · exact ⟨_, s2, by simp only [evalE, evalL, evalO, evalB, evalI, e, e2, Option.bind_some, Option.map_some, if_true, if_false, Bool.false_eq_true], q⟩
  · exact ⟨_, s2, by simp only [evalE, evalL, evalO, evalB, evalI, e, e2, Option.bind_some, Option.map_some, if_true, if_false, Bool.false_eq_true], q⟩
end
end Q

set_option Elab.async false
set_option linter.all false
set_option maxRecDepth 100000
set_option maxHeartbeats 1000000
namespace Q
open PySem PySem.Spec PyProof.Rows L2
section
variable {T : Tab} {env : List Sl} {st : Store} {Q : Fl × List Sl × Store → Prop}
theorem Ex.mono {c : CS} {Q' : Fl × List Sl × Store → Prop} (h : Ex T c env st Q) (k : ∀ r, Q r → Q' r) : Ex T c env st Q' := by obtain ⟨n, r, e, q⟩ := h; exact ⟨n, r, e, k _ q⟩
theorem Ex.skip (h : Q (.nx, env, st)) : Ex T .skip env st Q := ⟨0, _, by unfold execS; rfl, h⟩
theorem Ex.cont (h : Q (.ct, env, st)) : Ex T .cont env st Q := ⟨0, _, by unfold execS; rfl, h⟩
/-- what follows a statement -/
def Aft (T : Tab) (b : CS) (Q : Fl × List Sl × Store → Prop) : Fl × List Sl × Store → Prop
  | (.nx, e, s) => Ex T b e s Q
  | r => Q r
theorem Ex.seq {a b : CS} (h : Ex T a env st (Aft T b Q)) : Ex T (.seq a b) env st Q := by
  obtain ⟨n, ⟨f, e1, s1⟩, e, q⟩ := h
  cases f with
  | nx =>
    obtain ⟨m, r, e2, q⟩ := q
    refine ⟨max n m, r, ?_, q⟩
    conv => lhs; unfold execS
    rw [execS_mono (Nat.le_max_left n m) e]
    exact execS_mono (Nat.le_max_right n m) e2
  | ct => exact ⟨n, _, by conv => lhs; unfold execS
                          rw [e]; rfl, q⟩
  | rt d => exact ⟨n, _, by conv => lhs; unfold execS
                            rw [e]; rfl, q⟩
theorem Ex.exp {e : CE} (h : Ee T e (vF (vars e) 0 env) st fun _ s => Q (.nx, sF (vars e) [] 0 env, s)) : Ex T (.exp e) env st Q := by
  obtain ⟨d, s, e1, q⟩ := h
  exact ⟨0, _, by unfold execS; rw [view_eq, e1, settle_eq]; rfl, q⟩
theorem Ex.set {i : Nat} {e : CE} (h : Ee T e (vF (vars e) 0 env) st fun d s => Q (.nx, (sF (vars e) [d] 0 env).set i (.val d), s)) : Ex T (.set i e) env st Q := by
  obtain ⟨d, s, e1, q⟩ := h
  exact ⟨0, _, by unfold execS; rw [view_eq, e1]; simp only [Option.map_some]; rw [settle_eq], q⟩
theorem Ex.setOwn {i : Nat} {e : CE} (h : Ee T e (vF (vars e) 0 env) st fun d s => ownable d = true ∧ Q (.nx, (sF (vars e) (inside d) 0 env).set i (.own d), s)) : Ex T (.setOwn i e) env st Q := by
  obtain ⟨d, s, e1, ho, q⟩ := h
  exact ⟨0, _, by unfold execS; rw [view_eq, e1]; simp only [Option.bind_some]; rw [if_pos ho, settle_eq], q⟩
theorem Ex.unpackL {is : List Nat} {e : CE} (h : Ee T e (vF (vars e) 0 env) st fun d s => ∃ xs, d = .lst xs ∧ is.length = xs.length ∧ Q (.nx, setS (sF (vars e) xs 0 env) is (xs.map .val), s)) : Ex T (.unpack is e) env st Q := by
  obtain ⟨d, s, e1, xs, rfl, hl, q⟩ := h
  exact ⟨0, _, by unfold execS; rw [view_eq, e1]; simp only [Option.bind_some]; rw [if_pos hl, settle_eq], q⟩
theorem Ex.unpack {is : List Nat} {e : CE} (h : Ee T e (vF (vars e) 0 env) st fun d s => ∃ xs, d = .tup xs ∧ is.length = xs.length ∧ Q (.nx, setS (sF (vars e) xs 0 env) is (xs.map .val), s)) : Ex T (.unpack is e) env st Q := by
  obtain ⟨d, s, e1, xs, rfl, hl, q⟩ := h
  exact ⟨0, _, by unfold execS; rw [view_eq, e1]; simp only [Option.bind_some]; rw [if_pos hl, settle_eq], q⟩
def Ep (T : Tab) (fl : List Bool) (c : CL) (env : List (Option D)) (st : Store) (Q : List Sl → Store → Prop) : Prop := ∃ d s, evalP T fl c env st = some (d, s) ∧ Q d s
theorem Ep.nil {en : List (Option D)} {QP : List Sl → Store → Prop} (h : QP [] st) : Ep T [] .nil en st QP := ⟨[], st, by unfold evalP; rfl, h⟩
theorem Ep.val {en : List (Option D)} {c : CE} {cl : CL} {fl : List Bool} {QP : List Sl → Store → Prop} (h : Ee T c en st fun d s => Ep T fl cl en s fun r s => QP (.val d :: r) s) : Ep T (false :: fl) (.cons c cl) en st QP := by
  obtain ⟨d, s, e, r, s2, e2, q⟩ := h
  exact ⟨_, s2, by unfold evalP; simp only [e, e2, Option.bind_some, Bool.false_eq_true, if_false], q⟩
theorem Ep.own {en : List (Option D)} {c : CE} {cl : CL} {fl : List Bool} {QP : List Sl → Store → Prop} (h : Ee T c en st fun d s => ownable d = true ∧ Ep T fl cl en s fun r s => QP (.own d :: r) s) : Ep T (true :: fl) (.cons c cl) en st QP := by
  obtain ⟨d, s, e, ho, r, s2, e2, q⟩ := h
  exact ⟨_, s2, by unfold evalP; simp only [e, e2, Option.bind_some, if_true, ho], q⟩
theorem Ex.par {is : List Nat} {fl : List Bool} {es : CL} (h : Ep T fl es (vF (varsL es) 0 env) st fun ss s => is.length = ss.length ∧ Q (.nx, setS (sF (varsL es) (slData ss) 0 env) is ss, s)) : Ex T (.par is fl es) env st Q := by
  obtain ⟨d, s, e1, hl, q⟩ := h
  exact ⟨0, _, by unfold execS; rw [view_eq, e1]; simp only [Option.bind_some]; rw [if_pos hl, settle_eq], q⟩
/-- x[k] = d -/
def Pt (T : Tab) (i : Nat) (k : CE) (d : D) (env : List Sl) (st : Store) (Q : List Sl → Store → Prop) : Prop :=
  Ee T k (vF (vars k) 0 env) st fun kd s => Pr (putAt i kd d (sF (vars k) [kd] 0 env) s) fun r => Q r.1 r.2
theorem Pt.run {i : Nat} {k : CE} {d : D} {QS : List Sl → Store → Prop} (h : Pt T i k d env st QS) : ∃ e s, putStep T i k d env st = some (e, s) ∧ QS e s := by
  obtain ⟨kd, s, e1, ⟨e2, s2⟩, e3, q⟩ := h
  exact ⟨e2, s2, by unfold putStep; rw [view_eq, e1]; simp only [Option.bind_some]; rw [settle_eq]; exact e3, q⟩
theorem Ex.put {i : Nat} {k e : CE} (h : Ee T e (vF (vars e) 0 env) st fun d s => Pt T i k d (sF (vars e) [d] 0 env) s fun e1 s1 => Q (.nx, e1, s1)) : Ex T (.put i k e) env st Q := by
  obtain ⟨d, s, e1, h⟩ := h
  obtain ⟨e2, s2, e3, q⟩ := h.run
  exact ⟨0, _, by unfold execS; rw [view_eq, e1]; simp only [Option.bind_some]; rw [settle_eq, e3]; rfl, q⟩
def Pts (T : Tab) : List (Nat × Option CE) → List D → List Sl → Store → (List Sl → Store → Prop) → Prop
  | [], [], env, st, Q => Q env st
  | (i, some k) :: ks, d :: ds, env, st, Q => Pt T i k d env st fun e s => Pts T ks ds e s Q
  | (i, none) :: ks, d :: ds, env, st, Q => Pts T ks ds (env.set i (.val d)) st Q
  | _, _, _, _, _ => False
theorem Pts.run : ∀ {ks : List (Nat × Option CE)} {ds : List D} {env : List Sl} {st : Store} {QS : List Sl → Store → Prop}, Pts T ks ds env st QS → ∃ e s, putSteps T ks ds env st = some (e, s) ∧ QS e s
  | [], [], env, st, QS, h => ⟨env, st, rfl, h⟩
  | (i, some k) :: ks, d :: ds, env, st, QS, h => by
    obtain ⟨e, s, e1, q⟩ := (show Pt T i k d env st fun e s => Pts T ks ds e s QS from h).run
    obtain ⟨e2, s2, e3, q⟩ := Pts.run q
    exact ⟨e2, s2, by show (putStep T i k d env st).bind _ = _; rw [e1]; exact e3, q⟩
  | (i, none) :: ks, d :: ds, env, st, QS, h => Pts.run (ks := ks) (ds := ds) h
  | [], _ :: _, _, _, _, h => h.elim
  | (_, some _) :: _, [], _, _, _, h => h.elim
  | (_, none) :: _, [], _, _, _, h => h.elim
theorem Ex.puts {ks : List (Nat × Option CE)} {es : CL} (h : El T es (vF (varsL es) 0 env) st fun ds s => Pts T ks ds (sF (varsL es) ds 0 env) s fun e1 s1 => Q (.nx, e1, s1)) : Ex T (.puts ks es) env st Q := by
  obtain ⟨ds, s, e1, h⟩ := h
  obtain ⟨e2, s2, e3, q⟩ := h.run
  exact ⟨0, _, by unfold execS; rw [view_eq, e1]; simp only [Option.bind_some]; rw [settle_eq, e3]; rfl, q⟩
theorem Ex.app {i : Nat} {e : CE} (h : Ee T e (vF (vars e) 0 env) st fun d s => ∃ xs, (sF (vars e) [d] 0 env)[i]? = some (.own (.lst xs)) ∧ xs.length < sizeLine ∧ Q (.nx, (sF (vars e) [d] 0 env).set i (.own (.lst (xs ++ [d]))), s)) : Ex T (.app i e) env st Q := by
  obtain ⟨d, s, e1, xs, hx, hl, q⟩ := h
  refine ⟨0, _, ?_, q⟩
  unfold execS; rw [view_eq, e1]; simp only [Option.bind_some]; rw [settle_eq, hx]; exact if_pos hl
theorem Ex.ext {i : Nat} {e : CE} (h : Ee T e (vF (vars e) 0 env) st fun d s => ∃ xs ys, d = .lst ys ∧ (sF (vars e) ys 0 env)[i]? = some (.own (.lst xs)) ∧ xs.length + ys.length ≤ sizeLine ∧ Q (.nx, (sF (vars e) ys 0 env).set i (.own (.lst (xs ++ ys))), s)) : Ex T (.ext i e) env st Q := by
  obtain ⟨d, s, e1, xs, ys, rfl, hx, hl, q⟩ := h
  refine ⟨0, _, ?_, q⟩
  unfold execS; rw [view_eq, e1]; simp only [Option.bind_some]; rw [settle_eq, hx]; exact if_pos hl
theorem Ex.popTo {is : List Nat} {i : Nat} {xs ys : List D} (h1 : env[i]? = some (.own (.lst (xs ++ [.tup ys])))) (h2 : is.length = ys.length) (h : Q (.nx, setS (env.set i (.own (.lst xs))) is (ys.map .val), st)) : Ex T (.popTo is i) env st Q := by
  refine ⟨0, _, ?_, h⟩
  unfold execS
  rw [h1]
  have e : (xs ++ [D.tup ys])[(xs ++ [D.tup ys]).length - 1]? = some (.tup ys) := by simp
  dsimp only
  rw [e]
  dsimp only
  rw [if_pos h2, List.dropLast_concat]
theorem Ex.setA {i : Nat} {m : Str} {e : CE} (h : Ee T e (vF (vars e) 0 env) st fun d s => ∃ q c ns xs, (sF (vars e) [d] 0 env)[i]? = some (.own (.inst q c ns xs)) ∧ (m ∈ T.fld c ∧ m ∉ ns ∧ ns.length < 1000) ∧ Q (.nx, (sF (vars e) [d] 0 env).set i (.own (.inst q c (ns ++ [m]) (xs ++ [d]))), s)) : Ex T (.setA i m e) env st Q := by
  obtain ⟨d, s, e1, q', c, ns, xs, hx, hl, q⟩ := h
  refine ⟨0, _, ?_, q⟩
  unfold execS; rw [view_eq, e1]; simp only [Option.bind_some]; rw [settle_eq, hx]; exact if_pos hl
theorem Ex.ret {e : CE} (h : Ee T e (vF (vars e) 0 env) st fun d s => Q (.rt d, env, s)) : Ex T (.ret e) env st Q := by
  obtain ⟨d, s, e1, q⟩ := h
  exact ⟨0, _, by unfold execS; rw [view_eq, e1]; rfl, q⟩
theorem Ex.retCell {es : CL} (h : El T es (vF (varsL es) 0 env) st fun ds s => Pr (intsOf ds) fun ns => Q (.rt (.cell s.length), env, s ++ [ns])) : Ex T (.retCell es) env st Q := by
  obtain ⟨ds, s, e1, ns, e2, q⟩ := h
  exact ⟨0, _, by unfold execS; rw [view_eq, e1]; simp only [Option.bind_some]; rw [e2]; rfl, q⟩
theorem Ex.retN (h : Q (.rt .non, env, st)) : Ex T .retN env st Q := ⟨0, _, by unfold execS; rfl, h⟩
def Ts (T : Tab) (t : CE) (env : List Sl) (st : Store) (Q : Bool → List Sl → Store → Prop) : Prop := Ee T t (vF (vars t) 0 env) st fun x s => ∃ b, x = .bl b ∧ Q b (sF (vars t) [] 0 env) s
theorem Ts.run {t : CE} {QT : Bool → List Sl → Store → Prop} (h : Ts T t env st QT) : ∃ b e s, testS T t env st = some (b, e, s) ∧ QT b e s := by
  obtain ⟨d, s, e1, b, rfl, q⟩ := h
  exact ⟨b, _, s, by unfold testS; rw [view_eq, e1]; simp only [Option.bind_some]; rw [settle_eq], q⟩
theorem Ex.iff {t : CE} {a b : CS} (h : Ts T t env st fun k e s => (k = true → Ex T a e s Q) ∧ (k = false → Ex T b e s Q)) : Ex T (.iff t a b) env st Q := by
  obtain ⟨k, e, s, e1, q1, q2⟩ := h.run
  cases k with
  | true => obtain ⟨n, r, e2, q⟩ := q1 rfl; exact ⟨n, r, by conv => lhs; unfold execS
                                                            rw [e1]; exact e2, q⟩
  | false => obtain ⟨n, r, e2, q⟩ := q2 rfl; exact ⟨n, r, by conv => lhs; unfold execS
                                                             rw [e1]; exact e2, q⟩
/-! loops -/
def Lp (T : Tab) (tg : CT) (b : CS) (xs : List D) (env : List Sl) (st : Store) (Q : Fl × List Sl × Store → Prop) : Prop := ∃ n r, loopGo (fun d e s => (bindS tg d e).bind fun e1 => execS T n b e1 s) xs env st = some r ∧ Q r
theorem Lp.nil {tg : CT} {b : CS} (h : Q (.nx, env, st)) : Lp T tg b [] env st Q := ⟨0, _, rfl, h⟩
/-- what follows a turn -/
def Trn (Q K : Fl × List Sl × Store → Prop) : Fl × List Sl × Store → Prop
  | (.rt v, e, s) => Q (.rt v, e, s)
  | (.nx, e, s) => K (.nx, e, s)
  | (.ct, e, s) => K (.nx, e, s)
theorem Lp.cons {tg : CT} {b : CS} {d : D} {ds : List D} (h : Pr (bindS tg d env) fun e1 => Ex T b e1 st (Trn Q fun r => Lp T tg b ds r.2.1 r.2.2 Q)) : Lp T tg b (d :: ds) env st Q := by
  obtain ⟨e1, h1, n, ⟨f, e2, s2⟩, h2, q⟩ := h
  cases f with
  | rt v =>
    refine ⟨n, _, ?_, q⟩
    conv => lhs; unfold loopGo
    rw [h1, Option.bind_some, h2]
  | nx =>
    obtain ⟨m, r, h3, q⟩ := q
    refine ⟨max n m, r, ?_, q⟩
    conv => lhs; unfold loopGo
    rw [h1, Option.bind_some, execS_mono (Nat.le_max_left n m) h2]
    refine loopGo_mono (fun d e s r h => ?_) h3
    obtain ⟨e4, h5, h⟩ := ob h
    rw [h5]
    exact execS_mono (Nat.le_max_right n m) h
  | ct =>
    obtain ⟨m, r, h3, q⟩ := q
    refine ⟨max n m, r, ?_, q⟩
    conv => lhs; unfold loopGo
    rw [h1, Option.bind_some, execS_mono (Nat.le_max_left n m) h2]
    refine loopGo_mono (fun d e s r h => ?_) h3
    obtain ⟨e4, h5, h⟩ := ob h
    rw [h5]
    exact execS_mono (Nat.le_max_right n m) h
theorem Lp.inv {tg : CT} {b : CS} {xs : List D} (I : Nat → List Sl → Store → Prop) (h0 : I 0 env st) (hs : ∀ k d e s, xs[k]? = some d → I k e s → Pr (bindS tg d e) fun e1 => Ex T b e1 s (Trn Q fun r => I (k + 1) r.2.1 r.2.2)) (he : ∀ e s, I xs.length e s → Q (.nx, e, s)) : Lp T tg b xs env st Q := by
  have go : ∀ (ys : List D) (k : Nat) (e : List Sl) (s : Store), xs.drop k = ys → I k e s → k ≤ xs.length → Lp T tg b ys e s Q := by
    intro ys
    induction ys with
    | nil =>
      intro k e s hd hi hk
      have : xs.length ≤ k := by
        have := congrArg List.length hd
        simp at this
        omega
      have : k = xs.length := by omega
      subst this
      exact Lp.nil (he e s hi)
    | cons y ys ih =>
      intro k e s hd hi hk
      have hl : k < xs.length := by
        have := congrArg List.length hd
        simp at this
        omega
      have hy : xs[k]? = some y := by
        have := congrArg List.head? hd
        rw [List.head?_drop] at this
        exact this
      have hd2 : xs.drop (k + 1) = ys := by
        have := congrArg List.tail hd
        rw [List.tail_drop] at this
        exact this
      obtain ⟨e1, h1, h2⟩ := hs k y e s hy hi
      refine Lp.cons ⟨e1, h1, h2.mono fun r q => ?_⟩
      obtain ⟨f, e2, s2⟩ := r
      cases f with
      | rt v => exact q
      | nx => exact ih (k + 1) e2 s2 hd2 q (by omega)
      | ct => exact ih (k + 1) e2 s2 hd2 q (by omega)
  exact go xs 0 env st rfl h0 (Nat.zero_le _)
theorem Ex.loop {tg : CT} {it : CI} {b : CS} (h : Ei T it (vF (varsI it) 0 (sF (varsI it) (if isRng it then [] else both) 0 env)) st fun xs s => Lp T tg b xs (sF (varsI it) (if isRng it then [] else both) 0 env) s Q) : Ex T (.loop tg it b) env st Q := by
  obtain ⟨xs, s, e, n, r, h, q⟩ := h
  refine ⟨n, r, ?_, q⟩
  conv => lhs; unfold execS
  unfold freezeI
  rw [settle_eq, view_eq, e]
  exact h
theorem whileGo_inv {t : CE} {b : CS} (I : Nat → List Sl → Store → Prop) (hs : ∀ k e s, I k e s → Ts T t e s fun c e1 s1 => (c = true → Ex T b e1 s1 (Trn Q fun r => ∃ k', k' < k ∧ I k' r.2.1 r.2.2)) ∧ (c = false → Q (.nx, e1, s1))) : ∀ (k : Nat) (e : List Sl) (s : Store), I k e s → ∃ n r, whileGo (testS T t) (fun e s => execS T n b e s) n e s = some r ∧ Q r := by
  intro k
  induction k using Nat.strongRecOn with
  | _ k ih =>
    intro e s hi
    obtain ⟨c, e1, s1, h1, q1, q2⟩ := (hs k e s hi).run
    cases c with
    | false => exact ⟨1, _, by unfold whileGo; rw [h1], q2 rfl⟩
    | true =>
      obtain ⟨n, ⟨f, e2, s2⟩, h2, q⟩ := q1 rfl
      cases f with
      | rt v => exact ⟨n + 1, _, by unfold whileGo; rw [h1]; dsimp only; rw [execS_mono (Nat.le_succ n) h2], q⟩
      | nx =>
        obtain ⟨k', hk, hi'⟩ := q
        obtain ⟨m, r, h3, q⟩ := ih k' hk e2 s2 hi'
        refine ⟨max n m + 1, r, ?_, q⟩
        unfold whileGo
        rw [h1]
        dsimp only
        rw [execS_mono (Nat.le_trans (Nat.le_max_left n m) (Nat.le_succ _)) h2]
        exact whileGo_mono (fun e s r h => execS_mono (Nat.le_trans (Nat.le_max_right n m) (Nat.le_succ _)) h) (Nat.le_max_right n m) h3
      | ct =>
        obtain ⟨k', hk, hi'⟩ := q
        obtain ⟨m, r, h3, q⟩ := ih k' hk e2 s2 hi'
        refine ⟨max n m + 1, r, ?_, q⟩
        unfold whileGo
        rw [h1]
        dsimp only
        rw [execS_mono (Nat.le_trans (Nat.le_max_left n m) (Nat.le_succ _)) h2]
        exact whileGo_mono (fun e s r h => execS_mono (Nat.le_trans (Nat.le_max_right n m) (Nat.le_succ _)) h) (Nat.le_max_right n m) h3
theorem Ex.whl {t : CE} {b : CS} (I : Nat → List Sl → Store → Prop) (k : Nat) (h0 : I k env st) (hs : ∀ k e s, I k e s → Ts T t e s fun c e1 s1 => (c = true → Ex T b e1 s1 (Trn Q fun r => ∃ k', k' < k ∧ I k' r.2.1 r.2.2)) ∧ (c = false → Q (.nx, e1, s1))) : Ex T (.whl t b) env st Q := by
  obtain ⟨n, r, h, q⟩ := whileGo_inv I hs k env st h0
  exact ⟨n, r, by conv => lhs; unfold execS
                  exact h, q⟩
end
/-! ### comprehensions -/
section
variable {T : Tab} {env : List (Option D)} {st : Store} {Q : D → Store → Prop}
/-- one turn of a comprehension -/
def Cp (T : Tab) (el : CE) (tg : CT) (ifs : CO) (own : List Nat) (env : List (Option D)) (d : D) (st : Store) (Q : Option D → Store → Prop) : Prop :=
  Pr (bindT tg d (wipeD env own)) fun e1 => Eb T ifs e1 st fun b s => (b = true → Ee T el e1 s fun x s => Q (some x) s) ∧ (b = false → Q none s)
theorem compGo_inv {el : CE} {tg : CT} {ifs : CO} {own : List Nat} {xs : List D} (I : Nat → List D → Store → Prop) (h0 : I 0 [] st) (hs : ∀ k d acc s, xs[k]? = some d → I k acc s → Cp T el tg ifs own env d s fun x s => I (k + 1) (acc ++ x.toList) s) :
    ∃ r s, compGo (fun d st => (bindT tg d (wipeD env own)).bind fun e1 => (evalB T ifs e1 st).bind fun b => if b.1 then (evalE T el e1 b.2).map fun y => (some y.1, y.2) else some (none, b.2)) xs st = some (r, s) ∧ I xs.length r s := by
  have go : ∀ (ys : List D) (k : Nat) (acc : List D) (s : Store), xs.drop k = ys → I k acc s → k ≤ xs.length → ∃ r s', compGo (fun d st => (bindT tg d (wipeD env own)).bind fun e1 => (evalB T ifs e1 st).bind fun b => if b.1 then (evalE T el e1 b.2).map fun y => (some y.1, y.2) else some (none, b.2)) ys s = some (r, s') ∧ I xs.length (acc ++ r) s' := by
    intro ys
    induction ys with
    | nil =>
      intro k acc s hd hi hk
      have : xs.length ≤ k := by
        have := congrArg List.length hd
        simp at this
        omega
      have : k = xs.length := by omega
      subst this
      exact ⟨[], s, rfl, by rw [List.append_nil]; exact hi⟩
    | cons y ys ih =>
      intro k acc s hd hi hk
      have hl : k < xs.length := by
        have := congrArg List.length hd
        simp at this
        omega
      have hy : xs[k]? = some y := by
        have := congrArg List.head? hd
        rw [List.head?_drop] at this
        exact this
      have hd2 : xs.drop (k + 1) = ys := by
        have := congrArg List.tail hd
        rw [List.tail_drop] at this
        exact this
      obtain ⟨e1, h1, b, s1, h2, q1, q2⟩ := hs k y acc s hy hi
      cases b with
      | true =>
        obtain ⟨x, s2, h3, hi2⟩ := q1 rfl
        obtain ⟨r, s3, h4, hi3⟩ := ih (k + 1) _ s2 hd2 hi2 (by omega)
        refine ⟨x :: r, s3, ?_, by simpa using hi3⟩
        conv => lhs; unfold compGo
        simp only [h1, h2, h3, h4, Option.bind_some, Option.map_some, if_true]
      | false =>
        obtain ⟨r, s3, h4, hi3⟩ := ih (k + 1) _ s1 hd2 (q2 rfl) (by omega)
        refine ⟨r, s3, ?_, by simpa using hi3⟩
        conv => lhs; unfold compGo
        simp only [h1, h2, h4, Option.bind_some, Bool.false_eq_true, if_false]
  obtain ⟨r, s, h, hi⟩ := go xs 0 [] st rfl h0 (Nat.zero_le _)
  exact ⟨r, s, h, by simpa using hi⟩
theorem Ee.comp_inv {el : CE} {tg : CT} {it : CI} {ifs : CO} {own : List Nat} (h : Ei T it env st fun xs s => ∃ I : Nat → List D → Store → Prop, I 0 [] s ∧ (∀ k d acc s, xs[k]? = some d → I k acc s → Cp T el tg ifs own env d s fun x s => I (k + 1) (acc ++ x.toList) s) ∧ ∀ r s, I xs.length r s → Q (.lst r) s) : Ee T (.comp el tg it ifs own) env st Q := by
  obtain ⟨xs, s, e, I, h0, hs, he⟩ := h
  obtain ⟨r, s2, e2, hi⟩ := compGo_inv I h0 hs
  exact ⟨.lst r, s2, by simp only [evalE, e, Option.bind_some, e2, Option.map_some], he r s2 hi⟩
/-- a comprehension that changes nothing -/
theorem Ee.comp_map {α : Type} {el : CE} {tg : CT} {it : CI} {ifs : CO} {own : List Nat} (ys : List α) (g : α → D) (p : α → Bool) (f : α → D) (h : Ei T it env st fun xs s => xs = ys.map g ∧ (∀ y ∈ ys, Cp T el tg ifs own env (g y) s fun x s' => x = (if p y then some (f y) else none) ∧ s' = s) ∧ Q (.lst ((ys.filter p).map f)) s) : Ee T (.comp el tg it ifs own) env st Q := by
  obtain ⟨xs, s, e, rfl, hs, he⟩ := h
  refine Ee.comp_inv ⟨_, s, e, fun k acc s' => acc = ((ys.take k).filter p).map f ∧ s' = s, ⟨rfl, rfl⟩, fun k d acc s' hk ⟨ha, hs'⟩ => ?_, fun r s' ⟨hr, hs'⟩ => ?_⟩
  · subst ha hs'
    rw [List.getElem?_map] at hk
    obtain ⟨y, hy, rfl⟩ := Option.map_eq_some_iff.mp hk
    obtain ⟨e1, h1, b, s1, h2, q1, q2⟩ := hs y (List.mem_of_getElem? hy)
    have step : ∀ x : Option D, x = (if p y then some (f y) else none) → ((ys.take k).filter p).map f ++ x.toList = ((ys.take (k + 1)).filter p).map f := fun x hx => by
      rw [List.take_succ, hy, List.filter_append, List.map_append]
      congr 1
      rw [hx]
      cases hp : p y with
      | true => simp [hp]
      | false => simp [hp]
    refine ⟨e1, h1, b, s1, h2, fun hb => ?_, fun hb => ?_⟩
    · obtain ⟨x, s2, h3, hx, hs2⟩ := q1 hb
      exact ⟨x, s2, h3, step _ hx, hs2⟩
    · exact ⟨step _ (q2 hb).1, (q2 hb).2⟩
  · subst hr hs'
    rw [List.length_map, List.take_length]
    exact he
end
/-! ### primitives -/
section
variable {i j : Int} {x y : Str} {xs ys : List D} {Q : D → Prop} {QB : Bool → Prop}
theorem pr_mod (hj : 0 < j) (h : Q (.int (i % j))) : Pr (binD .Mod (.int i) (.int j)) Q := Pr.ite hj (Pr.some h)
theorem pr_mul (hj : bitsOk i j = true) (h : Q (.int (i * j))) : Pr (binD .Mult (.int i) (.int j)) Q := Pr.ite hj (Pr.some h)
theorem pr_div (hj : 0 < j ∧ j.natAbs.log2 < 8000) (h : Q (.int (i / j))) : Pr (binD .FloorDiv (.int i) (.int j)) Q := Pr.ite hj (Pr.some h)
theorem pr_pow (hj : 0 ≤ j ∧ j ≤ 100 ∧ i.natAbs.log2 ≤ 1000) (h : Q (.int (i ^ j.toNat))) : Pr (binD .Pow (.int i) (.int j)) Q := Pr.ite hj (Pr.some h)
theorem pr_adds (hl : x.length + y.length ≤ sizeLine) (h : Q (.str (x ++ y))) : Pr (binD .Add (.str x) (.str y)) Q := Pr.ite hl (Pr.some h)
theorem pr_addl (hl : xs.length + ys.length ≤ sizeLine) (h : Q (.lst (xs ++ ys))) : Pr (binD .Add (.lst xs) (.lst ys)) Q := Pr.ite hl (Pr.some h)
theorem pr_addt (hl : xs.length + ys.length ≤ sizeLine) (h : Q (.tup (xs ++ ys))) : Pr (binD .Add (.tup xs) (.tup ys)) Q := Pr.ite hl (Pr.some h)
theorem pr_cell {st : Store} {c : Nat} {ns : List Int} (hs : st[c]? = some ns) {z : Int} (h1 : atI ns i = some z) (h : Q (.int z)) : Pr (subD st (.cell c) (.int i)) Q := ⟨.int z, by show (match st[c]? with | some ns => (atI ns i).map D.int | none => none) = _; rw [hs]; show (atI ns i).map D.int = _; rw [h1]; rfl, h⟩
theorem pr_subl {st : Store} {d : D} (h1 : atI xs i = some d) (h : Q d) : Pr (subD st (.lst xs) (.int i)) Q := ⟨d, h1, h⟩
theorem pr_subt {st : Store} {d : D} (h1 : atI xs i = some d) (h : Q d) : Pr (subD st (.tup xs) (.int i)) Q := ⟨d, h1, h⟩
end
end Q

set_option Elab.async false
set_option linter.all false
set_option maxRecDepth 100000
set_option maxHeartbeats 1000000
namespace Q
open PySem PySem.Spec PyProof.Rows L2
theorem Aft.nx {T : Tab} {b : CS} {Q : Fl × List Sl × Store → Prop} {e : List Sl} {s : Store} (h : Ex T b e s Q) : Aft T b Q (.nx, e, s) := h
theorem Aft.rt {T : Tab} {b : CS} {Q : Fl × List Sl × Store → Prop} {e : List Sl} {s : Store} {d : D} (h : Q (.rt d, e, s)) : Aft T b Q (.rt d, e, s) := h
theorem Aft.ct {T : Tab} {b : CS} {Q : Fl × List Sl × Store → Prop} {e : List Sl} {s : Store} (h : Q (.ct, e, s)) : Aft T b Q (.ct, e, s) := h
theorem Trn.nx {Q K : Fl × List Sl × Store → Prop} {e : List Sl} {s : Store} (h : K (.nx, e, s)) : Trn Q K (.nx, e, s) := h
theorem Trn.rt {Q K : Fl × List Sl × Store → Prop} {e : List Sl} {s : Store} {d : D} (h : Q (.rt d, e, s)) : Trn Q K (.rt d, e, s) := h
theorem Trn.ct {Q K : Fl × List Sl × Store → Prop} {e : List Sl} {s : Store} (h : K (.nx, e, s)) : Trn Q K (.ct, e, s) := h
/-- the end of a def -/
def Fin (Q : D → Store → Prop) : Fl × List Sl × Store → Prop
  | (.rt d, _, s) => Q d s
  | (.nx, _, s) => Q .non s
  | (.ct, _, _) => False
theorem Fin.rt {Q : D → Store → Prop} {d : D} {e : List Sl} {s : Store} (h : Q d s) : Fin Q (.rt d, e, s) := h
theorem Fin.nx {Q : D → Store → Prop} {e : List Sl} {s : Store} (h : Q .non s) : Fin Q (.nx, e, s) := h
theorem Cl.den {T : Tab} {N : List Str} {np : Nat} {c : CS} {ds : List D} {st : Store} {Q : D → Store → Prop} {e0 : List Sl} (hl : ds.length = np) (hi : ini N ds = e0) (h : Ex T c e0 st (Fin Q)) : Cl (den T N np c) ds st Q := by
  subst hi
  obtain ⟨n, ⟨f, e, s⟩, h, q⟩ := h
  cases f with
  | rt d => exact ⟨d, s, den_rt hl h, q⟩
  | nx => exact ⟨.non, s, den_nx hl h, q⟩
  | ct => exact q.elim
/-- no while in it -/
def hasW : CS → Bool
  | .seq a b => hasW a || hasW b
  | .iff _ a b => hasW a || hasW b
  | .loop _ _ b => hasW b
  | .whl _ _ => true
  | _ => false
theorem exec_any {T : Tab} {n m : Nat} : ∀ {c : CS}, hasW c = false → ∀ (env : List Sl) (st : Store), execS T n c env st = execS T m c env st := by
  intro c
  induction c with
  | seq a b iha ihb =>
    intro h env st
    rw [hasW, Bool.or_eq_false_iff] at h
    conv => lhs; unfold execS
    conv => rhs; unfold execS
    rw [iha h.1]
    congr 1
    funext r
    obtain ⟨f, e, s⟩ := r
    cases f with
    | nx => exact ihb h.2 e s
    | _ => rfl
  | iff t a b iha ihb =>
    intro h env st
    rw [hasW, Bool.or_eq_false_iff] at h
    conv => lhs; unfold execS
    conv => rhs; unfold execS
    congr 1
    funext r
    rw [iha h.1, ihb h.2]
  | loop tg it b ih =>
    intro h env st
    conv => lhs; unfold execS
    conv => rhs; unfold execS
    congr 1
    funext x
    congr 1
    funext d e s
    congr 1
    funext e1
    exact ih h e1 s
  | whl t b ih => intro h; cases h
  | _ => intro h env st; unfold execS; rfl
theorem noWhile {T : Tab} {n m : Nat} {c : CS} (h : hasW c = false) {env : List Sl} {st : Store} {r : Fl × List Sl × Store} (e : execS T n c env st = some r) : execS T m c env st = some r := by rw [exec_any h (n := m) (m := n)]; exact e
def notOwn : Sl → Bool
  | .own _ => false
  | _ => true
theorem sS_no {m : List Nat} {ds : List D} {k : Nat} {s : Sl} (h : notOwn s = true) : sS m ds k s = s := by
  unfold sS
  cases m.elem k with
  | false => rfl
  | true => cases s with
    | own _ => cases h
    | _ => rfl
theorem sF_vals {m : List Nat} {ds : List D} : ∀ {env : List Sl} {k : Nat}, env.all notOwn = true → sF m ds k env = env
  | [], k, _ => rfl
  | s :: r, k, h => by
    rw [List.all_cons, Bool.and_eq_true] at h
    rw [sF, sF_vals h.2, sS_no h.1]
theorem sS_val {m : List Nat} {ds : List D} {k : Nat} {d : D} : sS m ds k (.val d) = .val d := sS_no rfl
theorem sS_un {m : List Nat} {ds : List D} {k : Nat} : sS m ds k .un = .un := sS_no rfl
theorem sS_back {m : List Nat} {ds : List D} {k : Nat} {d : D} (h : backs d ds = true) : sS m ds k (.own d) = .own d := by
  unfold sS
  cases m.elem k with
  | false => rfl
  | true => show (bif backs d ds then Sl.own d else Sl.val d) = _; rw [h]; rfl
theorem Ts.mk {T : Tab} {t : CE} {env : List Sl} {st : Store} {Q : Bool → List Sl → Store → Prop} (h : Ee T t (vF (vars t) 0 env) st fun x s => ∃ b, x = .bl b ∧ Q b (sF (vars t) [] 0 env) s) : Ts T t env st Q := h
theorem Ts.mono {T : Tab} {t : CE} {env : List Sl} {st : Store} {P Q : Bool → List Sl → Store → Prop} (h : Ts T t env st P) (k : ∀ b e s, P b e s → Q b e s) : Ts T t env st Q := Ee.mono h fun d s ⟨b, e, q⟩ => ⟨b, e, k _ _ _ q⟩
theorem Pt.mk {T : Tab} {i : Nat} {k : CE} {d : D} {env : List Sl} {st : Store} {Q : List Sl → Store → Prop} (h : Ee T k (vF (vars k) 0 env) st fun kd s => Pr (putAt i kd d (sF (vars k) [kd] 0 env) s) fun r => Q r.1 r.2) : Pt T i k d env st Q := h
theorem Ee.isv {T : Tab} {i : Nat} {env : List (Option D)} {st : Store} {Q : D → Store → Prop} (h : Ee T (.var i) env st Q) : Ee T (.var i) env st Q := h
theorem exb {b : Bool} {P : Bool → Prop} (h : P b) : ∃ k, D.bl b = .bl k ∧ P k := ⟨b, rfl, h⟩
theorem exi {b : Int} {P : Int → Prop} (h : P b) : ∃ k, D.int b = .int k ∧ P k := ⟨b, rfl, h⟩
theorem exii {a b : Int} {P : Int → Int → Prop} (h : P a b) : ∃ k l, D.int a = .int k ∧ D.int b = .int l ∧ P k l := ⟨a, b, rfl, rfl, h⟩
section
variable {i j : Int} {x y : Str} {xs ys : List D} {p q : D} {Q : D → Prop} {QB : Bool → Prop} {b c : Bool} {ks : List Key} {kss : List (List Key)}
theorem pr_add (h : Q (.int (i + j))) : Pr (binD .Add (.int i) (.int j)) Q := ⟨_, rfl, h⟩
theorem pr_sub (h : Q (.int (i - j))) : Pr (binD .Sub (.int i) (.int j)) Q := ⟨_, rfl, h⟩
theorem pr_gt (h : QB (decide (j < i))) : Pr (cmpD .Gt (.int i) (.int j)) QB := ⟨_, rfl, h⟩
theorem pr_le (h : QB (decide (i ≤ j))) : Pr (cmpD .LtE (.int i) (.int j)) QB := ⟨_, rfl, h⟩
theorem pr_ge (h : QB (decide (j ≤ i))) : Pr (cmpD .GtE (.int i) (.int j)) QB := ⟨_, rfl, h⟩
theorem pr_lt (h : QB (decide (i < j))) : Pr (cmpD .Lt (.int i) (.int j)) QB := ⟨_, rfl, h⟩
theorem pr_lts (h : QB (decide (x.cps.toList < y.cps.toList))) : Pr (cmpD .Lt (.str x) (.str y)) QB := ⟨_, rfl, h⟩
theorem pr_eqi (h : QB (i == j)) : Pr (cmpD .Eq (.int i) (.int j)) QB := ⟨_, rfl, h⟩
theorem pr_nei (h : QB (!(i == j))) : Pr (cmpD .NotEq (.int i) (.int j)) QB := ⟨_, rfl, h⟩
theorem pr_eqs (h : QB (x == y)) : Pr (cmpD .Eq (.str x) (.str y)) QB := ⟨_, rfl, h⟩
theorem pr_nes (h : QB (!(x == y))) : Pr (cmpD .NotEq (.str x) (.str y)) QB := ⟨_, rfl, h⟩
theorem pr_eqb (h : QB (b == c)) : Pr (cmpD .Eq (.bl b) (.bl c)) QB := ⟨_, rfl, h⟩
theorem pr_in (h : Pr (inD p q) QB) : Pr (cmpD .In p q) QB := h
theorem pr_nin (h : Pr (inD p q) fun b => QB (!b)) : Pr (cmpD .NotIn p q) QB := Pr.map h
theorem pr_eq (h : Pr (eqD p q) QB) : Pr (cmpD .Eq p q) QB := h
theorem pr_ne (h : Pr (eqD p q) fun b => QB (!b)) : Pr (cmpD .NotEq p q) QB := Pr.map h
theorem bl_len_l : bltD "len" [.lst xs] = some (.int xs.length) := by unfold bltD; rw [if_pos rfl]
theorem bl_len_t : bltD "len" [.tup xs] = some (.int xs.length) := by unfold bltD; rw [if_pos rfl]
theorem bl_len_r {ns : List Int} : bltD "len" [.scr ns] = some (.int ns.length) := by unfold bltD; rw [if_pos rfl]
theorem bl_len_k : bltD "len" [.dK ks xs] = some (.int ks.length) := by unfold bltD; rw [if_pos rfl]
theorem bl_len_s (h : x.length ≤ sizeLine) : bltD "len" [.str x] = some (.int x.length) := by unfold bltD; rw [if_pos rfl]; exact if_pos h
theorem bl_abs : bltD "abs" [.int i] = some (.int (if i < 0 then -i else i)) := by unfold bltD; rw [if_neg (by decide +kernel), if_pos rfl]
theorem bl_all {bs : List Bool} (h : boolsOf xs = some bs) : bltD "all" [.lst xs] = some (.bl (bs.all id)) := by unfold bltD; rw [if_neg (by decide +kernel), if_neg (by decide +kernel), if_pos rfl]; show Option.map _ _ = _; rw [h]; rfl
theorem bl_any {bs : List Bool} (h : boolsOf xs = some bs) : bltD "any" [.lst xs] = some (.bl (bs.any id)) := by unfold bltD; rw [if_neg (by decide +kernel), if_neg (by decide +kernel), if_neg (by decide +kernel), if_pos rfl]; show Option.map _ _ = _; rw [h]; rfl
theorem bl_sum {bs : List Int} (h : intsOf xs = some bs) : bltD "sum" [.lst xs] = some (.int bs.sum) := by unfold bltD; rw [if_neg (by decide +kernel), if_neg (by decide +kernel), if_neg (by decide +kernel), if_neg (by decide +kernel), if_pos rfl]; show Option.map _ _ = _; rw [h]; rfl
theorem bl_max : bltD "max" [.int i, .int j] = some (.int (if j > i then j else i)) := by unfold bltD; rw [if_neg (by decide +kernel), if_neg (by decide +kernel), if_neg (by decide +kernel), if_neg (by decide +kernel), if_neg (by decide +kernel), if_pos rfl]
theorem bl_min : bltD "min" [.int i, .int j] = some (.int (if j < i then j else i)) := by unfold bltD; rw [if_neg (by decide +kernel), if_neg (by decide +kernel), if_neg (by decide +kernel), if_neg (by decide +kernel), if_neg (by decide +kernel), if_neg (by decide +kernel), if_pos rfl]
theorem bl_int : bltD "int" [.int i] = some (.int i) := by unfold bltD; rw [if_neg (by decide +kernel), if_neg (by decide +kernel), if_neg (by decide +kernel), if_neg (by decide +kernel), if_neg (by decide +kernel), if_neg (by decide +kernel), if_neg (by decide +kernel), if_pos rfl]
theorem bl_intb : bltD "int" [.bl b] = some (.int (if b then 1 else 0)) := by unfold bltD; rw [if_neg (by decide +kernel), if_neg (by decide +kernel), if_neg (by decide +kernel), if_neg (by decide +kernel), if_neg (by decide +kernel), if_neg (by decide +kernel), if_neg (by decide +kernel), if_pos rfl]
theorem bl_tup_l : bltD "tuple" [.lst xs] = some (.tup xs) := by unfold bltD; rw [if_neg (by decide +kernel), if_neg (by decide +kernel), if_neg (by decide +kernel), if_neg (by decide +kernel), if_neg (by decide +kernel), if_neg (by decide +kernel), if_neg (by decide +kernel), if_neg (by decide +kernel), if_pos rfl]
theorem bl_list_l : bltD "list" [.lst xs] = some (.lst xs) := by unfold bltD; rw [if_neg (by decide +kernel), if_neg (by decide +kernel), if_neg (by decide +kernel), if_neg (by decide +kernel), if_neg (by decide +kernel), if_neg (by decide +kernel), if_neg (by decide +kernel), if_neg (by decide +kernel), if_neg (by decide +kernel), if_pos rfl]
theorem bl_list_t : bltD "list" [.tup xs] = some (.lst xs) := by unfold bltD; rw [if_neg (by decide +kernel), if_neg (by decide +kernel), if_neg (by decide +kernel), if_neg (by decide +kernel), if_neg (by decide +kernel), if_neg (by decide +kernel), if_neg (by decide +kernel), if_neg (by decide +kernel), if_neg (by decide +kernel), if_pos rfl]
theorem bl_list_k : bltD "list" [.dK ks xs] = some (.lst (ks.map keyD)) := by unfold bltD; rw [if_neg (by decide +kernel), if_neg (by decide +kernel), if_neg (by decide +kernel), if_neg (by decide +kernel), if_neg (by decide +kernel), if_neg (by decide +kernel), if_neg (by decide +kernel), if_neg (by decide +kernel), if_neg (by decide +kernel), if_pos rfl]; rfl
theorem bl_list_kt : bltD "list" [.dT kss xs] = some (.lst (kss.map tupD)) := by unfold bltD; rw [if_neg (by decide +kernel), if_neg (by decide +kernel), if_neg (by decide +kernel), if_neg (by decide +kernel), if_neg (by decide +kernel), if_neg (by decide +kernel), if_neg (by decide +kernel), if_neg (by decide +kernel), if_neg (by decide +kernel), if_pos rfl]; rfl
theorem bl_sorted : bltD "sorted" [.lst xs] = sortD xs := by unfold bltD; rw [if_neg (by decide +kernel), if_neg (by decide +kernel), if_neg (by decide +kernel), if_neg (by decide +kernel), if_neg (by decide +kernel), if_neg (by decide +kernel), if_neg (by decide +kernel), if_neg (by decide +kernel), if_neg (by decide +kernel), if_neg (by decide +kernel)]; unfold bltD2; rw [if_pos rfl]
theorem bl_repr : bltD "repr" [p] = reprD p := by unfold bltD; rw [if_neg (by decide +kernel), if_neg (by decide +kernel), if_neg (by decide +kernel), if_neg (by decide +kernel), if_neg (by decide +kernel), if_neg (by decide +kernel), if_neg (by decide +kernel), if_neg (by decide +kernel), if_neg (by decide +kernel), if_neg (by decide +kernel)]; unfold bltD2; rw [if_neg (by decide +kernel), if_pos rfl]
theorem pr_len_l (h : Q (.int xs.length)) : Pr (bltD "len" [.lst xs]) Q := ⟨_, bl_len_l, h⟩
theorem pr_len_t (h : Q (.int xs.length)) : Pr (bltD "len" [.tup xs]) Q := ⟨_, bl_len_t, h⟩
theorem pr_len_r {ns : List Int} (h : Q (.int ns.length)) : Pr (bltD "len" [.scr ns]) Q := ⟨_, bl_len_r, h⟩
theorem pr_len_k (h : Q (.int ks.length)) : Pr (bltD "len" [.dK ks xs]) Q := ⟨_, bl_len_k, h⟩
theorem pr_len_s (hl : x.length ≤ sizeLine) (h : Q (.int x.length)) : Pr (bltD "len" [.str x]) Q := ⟨_, bl_len_s hl, h⟩
theorem pr_abs (h : Q (.int (if i < 0 then -i else i))) : Pr (bltD "abs" [.int i]) Q := ⟨_, bl_abs, h⟩
theorem pr_all {bs : List Bool} (e : boolsOf xs = some bs) (h : Q (.bl (bs.all id))) : Pr (bltD "all" [.lst xs]) Q := ⟨_, bl_all e, h⟩
theorem pr_any {bs : List Bool} (e : boolsOf xs = some bs) (h : Q (.bl (bs.any id))) : Pr (bltD "any" [.lst xs]) Q := ⟨_, bl_any e, h⟩
theorem pr_sum {bs : List Int} (e : intsOf xs = some bs) (h : Q (.int bs.sum)) : Pr (bltD "sum" [.lst xs]) Q := ⟨_, bl_sum e, h⟩
theorem pr_max (h : Q (.int (if j > i then j else i))) : Pr (bltD "max" [.int i, .int j]) Q := ⟨_, bl_max, h⟩
theorem pr_min (h : Q (.int (if j < i then j else i))) : Pr (bltD "min" [.int i, .int j]) Q := ⟨_, bl_min, h⟩
theorem pr_int (h : Q (.int i)) : Pr (bltD "int" [.int i]) Q := ⟨_, bl_int, h⟩
theorem pr_intb (h : Q (.int (if b then 1 else 0))) : Pr (bltD "int" [.bl b]) Q := ⟨_, bl_intb, h⟩
theorem pr_tup_l (h : Q (.tup xs)) : Pr (bltD "tuple" [.lst xs]) Q := ⟨_, bl_tup_l, h⟩
theorem pr_list_l (h : Q (.lst xs)) : Pr (bltD "list" [.lst xs]) Q := ⟨_, bl_list_l, h⟩
theorem pr_list_t (h : Q (.lst xs)) : Pr (bltD "list" [.tup xs]) Q := ⟨_, bl_list_t, h⟩
theorem pr_sorted (h : Pr (sortD xs) Q) : Pr (bltD "sorted" [.lst xs]) Q := by rw [bl_sorted]; exact h
theorem pr_repr (h : Pr (reprD p) Q) : Pr (bltD "repr" [p]) Q := by rw [bl_repr]; exact h
theorem pr_items_l {QL : List D → Prop} (h : QL xs) : Pr (itemsOf (.lst xs)) QL := ⟨_, rfl, h⟩
theorem pr_items_t {QL : List D → Prop} (h : QL xs) : Pr (itemsOf (.tup xs)) QL := ⟨_, rfl, h⟩
theorem pr_items_s {QL : List D → Prop} (hl : x.length ≤ sizeLine) (h : QL (x.cps.toList.map fun c => .str ⟨#[c]⟩)) : Pr (itemsOf (.str x)) QL := Pr.ite hl (Pr.some h)
theorem pr_keys_l {QL : List D → Prop} (h : QL xs) : Pr (keysD (.lst xs)) QL := ⟨_, rfl, h⟩
theorem pr_keys_t {QL : List D → Prop} (h : QL xs) : Pr (keysD (.tup xs)) QL := ⟨_, rfl, h⟩
theorem pr_keys_s {QL : List D → Prop} (hl : x.length ≤ sizeLine) (h : QL (x.cps.toList.map fun c => .str ⟨#[c]⟩)) : Pr (keysD (.str x)) QL := Pr.ite hl (Pr.some h)
theorem pr_keys_k {QL : List D → Prop} (h : QL (ks.map keyD)) : Pr (keysD (.dK ks xs)) QL := ⟨_, rfl, h⟩
theorem pr_keys_kt {QL : List D → Prop} (h : QL (kss.map fun k => .tup (k.map keyD))) : Pr (keysD (.dT kss xs)) QL := ⟨_, rfl, h⟩
theorem pr_sl_l {lo hi : Option Int} (h : Q (.lst (cutD xs lo hi))) : Pr (sliceD (.lst xs) lo hi) Q := ⟨_, rfl, h⟩
theorem pr_sl_t {lo hi : Option Int} (h : Q (.tup (cutD xs lo hi))) : Pr (sliceD (.tup xs) lo hi) Q := ⟨_, rfl, h⟩
theorem pr_sl_s {lo hi : Option Int} (hl : x.length ≤ sizeLine) (h : Q (.str (cutS x lo hi))) : Pr (sliceD (.str x) lo hi) Q := Pr.ite hl (Pr.some h)
theorem pr_rev (h : Q (.lst xs.reverse)) : Pr (revD (.lst xs)) Q := ⟨_, rfl, h⟩
theorem pr_bind1 {n : Nat} {env : List (Option D)} {QE : List (Option D) → Prop} (h : QE (env.set n (some p))) : Pr (bindT (.nm n) p env) QE := ⟨_, rfl, h⟩
theorem pr_binds1 {n : Nat} {env : List Sl} {QE : List Sl → Prop} (h : QE (env.set n (.val p))) : Pr (bindS (.nm n) p env) QE := ⟨_, rfl, h⟩
theorem pr_bindn {is : List Nat} {env : List (Option D)} {QE : List (Option D) → Prop} (hl : is.length = xs.length) (h : QE ((is.zip xs).foldl (fun e p => e.set p.1 (some p.2)) env)) : Pr (bindT (.nms is) (.tup xs) env) QE := Pr.ite hl (Pr.some h)
theorem pr_bindsn {is : List Nat} {env : List Sl} {QE : List Sl → Prop} (hl : is.length = xs.length) (h : QE (setS env is (xs.map .val))) : Pr (bindS (.nms is) (.tup xs) env) QE := Pr.ite hl (Pr.some h)
theorem pr_rng {QL : List D → Prop} (hl : -(2 ^ 62) ≤ i ∧ i < 2 ^ 62 ∧ -(2 ^ 62) ≤ j ∧ j < 2 ^ 62 ∧ (j - i).toNat ≤ sizeLine) (h : QL ((List.range (j - i).toNat).map fun (k : Nat) => .int (i + (k : Int)))) : Pr (rngD i j) QL := Pr.ite hl (Pr.some h)
theorem pr_putc {st : Store} {n c : Nat} {env : List Sl} {ns : List Int} {z : Int} {k : Nat} {QR : List Sl × Store → Prop} (h1 : env[n]? = some (.val (.cell c))) (h2 : st[c]? = some ns) (h3 : ixN ns.length i = some k) (h : QR (env, st.set c (ns.set k z))) : Pr (putAt n (.int i) (.int z) env st) QR :=
  ⟨_, by unfold putAt; rw [h1]; dsimp only; rw [h2]; dsimp only; rw [h3]; rfl, h⟩
end
theorem len_small {x : Str} {n : Nat} (h : x.length ≤ n) (hn : n ≤ 1000000 := by decide) : x.length ≤ sizeLine := by rw [sizeLine_eq]; omega
/-! pots -/
def PotAt (st : Store) (c b : Nat) : Prop := ∃ own seed cnt : Int, st[c]? = some [own, seed, cnt] ∧ 0 ≤ own ∧ own < 2 ^ 1100 ∧ 0 ≤ seed ∧ seed < 2 ^ 62 ∧ 0 ≤ cnt ∧ cnt ≤ b
/-- behind some takes of the pot c -/
def Nxt (c b : Nat) (st st' : Store) : Prop := st'.length = st.length ∧ (∀ i, i ≠ c → st'[i]? = st[i]?) ∧ PotAt st' c b
end Q

set_option Elab.async false
set_option linter.all false
set_option maxRecDepth 100000
set_option maxHeartbeats 1000000
namespace Q
open PySem PySem.Spec PyProof.Rows L2

def N_is_integer : List Str := ["value"]
def h_is_integer : Hint := ⟨[], [], false⟩
def c_is_integer : CS := (.ret (.and (.isi (.var 0) "int") (.not (.isi (.var 0) "bool"))))
theorem i_is_integer (a0 : D) : ini N_is_integer [a0] = [.val a0] := rfl
def N_is_from : List Str := ["value", "least"]
def h_is_from : Hint := ⟨[], [], false⟩
def c_is_from : CS := (.ret (.and (.call "is_integer" (.cons (.var 0) .nil)) (.cmp .GtE (.var 0) (.var 1))))
theorem i_is_from (a0 a1 : D) : ini N_is_from [a0, a1] = [.val a0, .val a1] := rfl
def N_is_name : List Str := ["value", "sign"]
def h_is_name : Hint := ⟨[], [], false⟩
def c_is_name : CS := (.seq (.iff (.or (.not (.isi (.var 0) "str")) (.not (.chain .LtE .LtE (.int 1) (.blt "len" (.cons (.var 0) .nil)) (.con "LONGEST_NAME")))) (.ret (.bl false)) .skip) (.ret (.blt "all" (.cons (.comp (.cmp .In (.var 1) (.con "LETTERS")) (.nm 1) (.ex (.var 0)) .no [1]) .nil))))
theorem i_is_name (a0 : D) : ini N_is_name [a0] = [.val a0, .un] := rfl
def N_is_one_of : List Str := ["value", "some"]
def h_is_one_of : Hint := ⟨[], [], false⟩
def c_is_one_of : CS := (.ret (.and (.isi (.var 0) "str") (.cmp .In (.var 0) (.var 1))))
theorem i_is_one_of (a0 a1 : D) : ini N_is_one_of [a0, a1] = [.val a0, .val a1] := rfl
def N_is_tuple_of : List Str := ["value", "many"]
def h_is_tuple_of : Hint := ⟨[], [], false⟩
def c_is_tuple_of : CS := (.ret (.and (.isi (.var 0) "tuple") (.cmp .Eq (.blt "len" (.cons (.var 0) .nil)) (.var 1))))
theorem i_is_tuple_of (a0 a1 : D) : ini N_is_tuple_of [a0, a1] = [.val a0, .val a1] := rfl
def N_is_tuple_to : List Str := ["value", "most"]
def h_is_tuple_to : Hint := ⟨[], [], false⟩
def c_is_tuple_to : CS := (.ret (.and (.isi (.var 0) "tuple") (.cmp .LtE (.blt "len" (.cons (.var 0) .nil)) (.var 1))))
theorem i_is_tuple_to (a0 a1 : D) : ini N_is_tuple_to [a0, a1] = [.val a0, .val a1] := rfl
def N_are_ascending : List Str := ["things", "one", "other"]
def h_are_ascending : Hint := ⟨[], [], false⟩
def c_are_ascending : CS := (.ret (.blt "all" (.cons (.comp (.cmp .Lt (.var 1) (.var 2)) (.nms [1, 2]) (.zip (.var 0) (.slice (.var 0) (.yes (.int 1)) .no)) .no [1, 2]) .nil)))
theorem i_are_ascending (a0 : D) : ini N_are_ascending [a0] = [.val a0, .un, .un] := rfl
def N_is_ascending_of : List Str := ["value", "some", "item"]
def h_is_ascending_of : Hint := ⟨[], [], false⟩
def c_is_ascending_of : CS := (.ret (.and (.isi (.var 0) "tuple") (.and (.blt "all" (.cons (.comp (.call "is_one_of" (.cons (.var 2) (.cons (.var 1) .nil))) (.nm 2) (.ex (.var 0)) .no [2]) .nil)) (.call "are_ascending" (.cons (.var 0) .nil)))))
theorem i_is_ascending_of (a0 a1 : D) : ini N_is_ascending_of [a0, a1] = [.val a0, .val a1, .un] := rfl
def N_are_routers : List Str := ["value", "name"]
def h_are_routers : Hint := ⟨[], [], false⟩
def c_are_routers : CS := (.seq (.iff (.or (.not (.call "is_tuple_to" (.cons (.var 0) (.cons (.con "MOST_ROUTERS") .nil)))) (.cmp .Lt (.blt "len" (.cons (.var 0) .nil)) (.con "FEWEST_ROUTERS"))) (.ret (.bl false)) .skip) (.ret (.and (.blt "all" (.cons (.comp (.call "is_name" (.cons (.var 1) .nil)) (.nm 1) (.ex (.var 0)) .no [1]) .nil)) (.call "are_ascending" (.cons (.var 0) .nil)))))
theorem i_are_routers (a0 : D) : ini N_are_routers [a0] = [.val a0, .un] := rfl
def N_is_link : List Str := ["value", "routers"]
def h_is_link : Hint := ⟨[], [], false⟩
def c_is_link : CS := (.seq (.iff (.or (.not (.call "is_tuple_of" (.cons (.var 0) (.cons (.con "LINK") .nil)))) (.not (.call "is_ascending_of" (.cons (.slice (.var 0) .no (.yes (.int 2))) (.cons (.var 1) .nil))))) (.ret (.bl false)) .skip) (.ret (.and (.call "is_from" (.cons (.sub (.var 0) (.int 2)) (.cons (.int 1) .nil))) (.call "is_from" (.cons (.sub (.var 0) (.int 3)) (.cons (.int 1) .nil))))))
theorem i_is_link (a0 a1 : D) : ini N_is_link [a0, a1] = [.val a0, .val a1] := rfl
def N_are_links : List Str := ["value", "routers", "link"]
def h_are_links : Hint := ⟨[], [], false⟩
def c_are_links : CS := (.seq (.iff (.or (.not (.call "is_tuple_to" (.cons (.var 0) (.cons (.con "MOST_LINKS") .nil)))) (.not (.blt "all" (.cons (.comp (.call "is_link" (.cons (.var 2) (.cons (.var 1) .nil))) (.nm 2) (.ex (.var 0)) .no [2]) .nil)))) (.ret (.bl false)) .skip) (.ret (.call "are_ascending" (.cons (.comp (.slice (.var 2) .no (.yes (.int 2))) (.nm 2) (.ex (.var 0)) .no [2]) .nil))))
theorem i_are_links (a0 a1 : D) : ini N_are_links [a0, a1] = [.val a0, .val a1, .un] := rfl
def N_Net____init__ : List Str := ["self", "routers", "links"]
def h_Net____init__ : Hint := ⟨[], [], false⟩
def c_Net____init__ : CS := (.seq (.iff (.or (.not (.call "are_routers" (.cons (.var 1) .nil))) (.not (.call "are_links" (.cons (.var 2) (.cons (.var 1) .nil))))) .stuck .skip) (.seq (.setA 0 "own_routers" (.var 1)) (.setA 0 "own_links" (.var 2))))
theorem i_Net____init__ (q : Addr) (cl : Str) (a1 a2 : D) : iniO N_Net____init__ q cl [a1, a2] = [.own (.inst q cl [] []), .val a1, .val a2] := rfl
def N_Net__routers : List Str := ["self"]
def h_Net__routers : Hint := ⟨[], [], false⟩
def c_Net__routers : CS := (.ret (.attr (.var 0) "own_routers"))
theorem i_Net__routers (a0 : D) : ini N_Net__routers [a0] = [.val a0] := rfl
def N_Net__links : List Str := ["self"]
def h_Net__links : Hint := ⟨[], [], false⟩
def c_Net__links : CS := (.ret (.attr (.var 0) "own_links"))
theorem i_Net__links (a0 : D) : ini N_Net__links [a0] = [.val a0] := rfl
def N_check_routers : List Str := ["net", "values", "value"]
def h_check_routers : Hint := ⟨[], [], false⟩
def c_check_routers : CS := (.loop (.nm 2) (.ex (.var 1)) (.iff (.not (.call "is_one_of" (.cons (.var 2) (.cons (.attr (.var 0) "routers") .nil)))) .stuck .skip))
theorem i_check_routers (a0 a1 : D) : ini N_check_routers [a0, a1] = [.val a0, .val a1, .un] := rfl
def N_lengths_of : List Str := ["net", "found", "a", "b", "there", "back"]
def h_lengths_of : Hint := ⟨[1], [1], false⟩
def c_lengths_of : CS := (.seq (.setOwn 1 (.dnew true)) (.seq (.loop (.nms [2, 3, 4, 5]) (.ex (.attr (.var 0) "links")) (.seq (.put 1 (.tup (.cons (.var 2) (.cons (.var 3) .nil))) (.var 4)) (.put 1 (.tup (.cons (.var 3) (.cons (.var 2) .nil))) (.var 5)))) (.ret (.var 1))))
theorem i_lengths_of (a0 : D) : ini N_lengths_of [a0] = [.val a0, .un, .un, .un, .un, .un] := rfl
def N_distances_to : List Str := ["routers", "lengths", "d", "found", "turn", "pair", "length"]
def h_distances_to : Hint := ⟨[3], [], false⟩
def c_distances_to : CS := (.seq (.setOwn 3 (.dct (.var 2) (.int 0))) (.seq (.loop (.nm 4) (.rng1 (.blt "len" (.cons (.var 0) .nil))) (.loop (.nm 5) (.ex (.var 1)) (.iff (.cmp .In (.sub (.var 5) (.int 1)) (.var 3)) (.seq (.set 6 (.bin .Add (.sub (.var 1) (.var 5)) (.sub (.var 3) (.sub (.var 5) (.int 1))))) (.iff (.or (.cmp .NotIn (.sub (.var 5) (.int 0)) (.var 3)) (.cmp .Lt (.var 6) (.sub (.var 3) (.sub (.var 5) (.int 0))))) (.put 3 (.sub (.var 5) (.int 0)) (.var 6)) .skip)) .skip))) (.ret (.var 3))))
theorem i_distances_to (a0 a1 a2 : D) : ini N_distances_to [a0, a1, a2] = [.val a0, .val a1, .val a2, .un, .un, .un, .un] := rfl
def N_nexts_by : List Str := ["routers", "lengths", "distances", "router", "fine", "n"]
def h_nexts_by : Hint := ⟨[], [], false⟩
def c_nexts_by : CS := (.seq (.iff (.cmp .Eq (.mcall (.var 2) "get" (.cons (.var 3) (.cons (.int 0) .nil))) (.int 0)) (.ret (.tup .nil)) .skip) (.seq (.set 4 (.comp (.var 5) (.nm 5) (.ex (.var 0)) (.yes (.and (.cmp .In (.tup (.cons (.var 3) (.cons (.var 5) .nil))) (.var 1)) (.cmp .In (.var 5) (.var 2)))) [5])) (.ret (.blt "tuple" (.cons (.comp (.var 5) (.nm 5) (.ex (.var 4)) (.yes (.cmp .Eq (.bin .Add (.sub (.var 1) (.tup (.cons (.var 3) (.cons (.var 5) .nil)))) (.sub (.var 2) (.var 5))) (.sub (.var 2) (.var 3)))) [5]) .nil)))))
theorem i_nexts_by (a0 a1 a2 a3 : D) : ini N_nexts_by [a0, a1, a2, a3] = [.val a0, .val a1, .val a2, .val a3, .un, .un] := rfl
def N_tables_by : List Str := ["routers", "lengths", "found", "d", "distances", "router"]
def h_tables_by : Hint := ⟨[2], [2], false⟩
def c_tables_by : CS := (.seq (.setOwn 2 (.dnew true)) (.seq (.loop (.nm 3) (.ex (.var 0)) (.seq (.set 4 (.call "distances_to" (.cons (.var 0) (.cons (.var 1) (.cons (.var 3) .nil))))) (.loop (.nm 5) (.ex (.var 0)) (.put 2 (.tup (.cons (.var 5) (.cons (.var 3) .nil))) (.call "nexts_by" (.cons (.var 0) (.cons (.var 1) (.cons (.var 4) (.cons (.var 5) .nil))))))))) (.ret (.var 2))))
theorem i_tables_by (a0 a1 : D) : ini N_tables_by [a0, a1] = [.val a0, .val a1, .un, .un, .un, .un] := rfl
def N_next_tables : List Str := ["net"]
def h_next_tables : Hint := ⟨[], [], false⟩
def c_next_tables : CS := (.ret (.call "tables_by" (.cons (.attr (.var 0) "routers") (.cons (.call "lengths_of" (.cons (.var 0) .nil)) .nil))))
theorem i_next_tables (a0 : D) : ini N_next_tables [a0] = [.val a0] := rfl
def N_distance : List Str := ["net", "a", "d"]
def h_distance : Hint := ⟨[], [], false⟩
def c_distance : CS := (.seq (.exp (.call "check_routers" (.cons (.var 0) (.cons (.tup (.cons (.var 1) (.cons (.var 2) .nil))) .nil)))) (.ret (.mcall (.call "distances_to" (.cons (.attr (.var 0) "routers") (.cons (.call "lengths_of" (.cons (.var 0) .nil)) (.cons (.var 2) .nil)))) "get" (.cons (.var 1) .nil))))
theorem i_distance (a0 a1 a2 : D) : ini N_distance [a0, a1, a2] = [.val a0, .val a1, .val a2] := rfl
def N_ways : List Str := ["net", "a", "d", "tables", "distances", "found", "length", "router", "n"]
def h_ways : Hint := ⟨[5], [], false⟩
def c_ways : CS := (.seq (.exp (.call "check_routers" (.cons (.var 0) (.cons (.tup (.cons (.var 1) (.cons (.var 2) .nil))) .nil)))) (.seq (.set 3 (.call "next_tables" (.cons (.var 0) .nil))) (.seq (.set 4 (.call "distances_to" (.cons (.attr (.var 0) "routers") (.cons (.call "lengths_of" (.cons (.var 0) .nil)) (.cons (.var 2) .nil))))) (.seq (.setOwn 5 (.dct (.var 2) (.int 1))) (.seq (.loop (.nm 6) (.ex (.sortset (.comp (.sub (.var 4) (.var 7)) (.nm 7) (.ex (.var 4)) (.yes (.cmp .NotEq (.var 7) (.var 2))) [7]))) (.loop (.nm 7) (.ex (.attr (.var 0) "routers")) (.iff (.and (.cmp .NotEq (.var 7) (.var 2)) (.cmp .Eq (.mcall (.var 4) "get" (.cons (.var 7) .nil)) (.var 6))) (.put 5 (.var 7) (.blt "sum" (.cons (.comp (.sub (.var 5) (.var 8)) (.nm 8) (.ex (.sub (.var 3) (.tup (.cons (.var 7) (.cons (.var 2) .nil))))) .no [8]) .nil))) .skip))) (.ret (.mcall (.var 5) "get" (.cons (.var 1) (.cons (.int 0) .nil)))))))))
theorem i_ways (a0 a1 a2 : D) : ini N_ways [a0, a1, a2] = [.val a0, .val a1, .val a2, .un, .un, .un, .un, .un, .un] := rfl
def N__law_pot : List Str := ["_law_script", "_law_k", "_law_cell", "_law_own"]
def h__law_pot : Hint := ⟨[], [], true⟩
def c__law_pot : CS := (.seq (.set 2 (.ife (.cmp .Lt (.var 1) (.blt "len" (.cons (.var 0) .nil))) (.sub (.var 0) (.var 1)) (.bin .Add (.bin .Mult (.int 43) (.var 1)) (.int 29)))) (.seq (.set 3 (.bin .Mult (.bin .Mod (.blt "int" (.cons (.blt "abs" (.cons (.var 2) .nil)) .nil)) (.bin .Pow (.bin .Pow (.int 10) (.int 60)) (.int 5))) (.blt "int" (.cons (.cmp .GtE (.blt "abs" (.cons (.var 2) .nil)) (.bin .Pow (.int 10) (.int 18))) .nil)))) (.retCell (.cons (.var 3) (.cons (.bin .Mod (.blt "int" (.cons (.bin .Add (.bin .Add (.bin .Mult (.bin .Mod (.blt "int" (.cons (.var 2) .nil)) (.int 2305843009213693951)) (.int 69389)) (.bin .Mult (.bin .Mult (.int 7561) (.var 1)) (.var 1))) (.int 83)) .nil)) (.int 2305843009213693921)) (.cons (.int 0) .nil))))))
theorem i__law_pot (a0 a1 : D) : ini N__law_pot [a0, a1] = [.val a0, .val a1, .un, .un] := rfl
def N__law_take : List Str := ["_law_pot_here", "_law_upto", "_law_prime", "_law_stirred", "_law_digit"]
def h__law_take : Hint := ⟨[], [], false⟩
def c__law_take : CS := (.seq (.iff (.cmp .Gt (.sub (.var 0) (.int 0)) (.int 0)) (.seq (.set 4 (.bin .Mod (.blt "int" (.cons (.sub (.var 0) (.int 0)) .nil)) (.var 1))) (.seq (.put 0 (.int 0) (.bin .FloorDiv (.sub (.var 0) (.int 0)) (.var 1))) (.ret (.var 4)))) .skip) (.seq (.put 0 (.int 2) (.bin .Add (.sub (.var 0) (.int 2)) (.int 1))) (.seq (.set 2 (.sub (.lst (.cons (.int 2147483647) (.cons (.int 2147483629) (.cons (.int 2147483587) (.cons (.int 2147483579) (.cons (.int 2147483563) .nil)))))) (.bin .Mod (.blt "int" (.cons (.sub (.var 0) (.int 2)) .nil)) (.int 5)))) (.seq (.set 3 (.bin .Mod (.blt "int" (.cons (.bin .Pow (.blt "int" (.cons (.bin .Add (.bin .Add (.sub (.var 0) (.int 1)) (.bin .Mult (.bin .Mult (.int 99989) (.sub (.var 0) (.int 2))) (.sub (.var 0) (.int 2)))) (.int 71)) .nil)) (.int 3)) .nil)) (.var 2))) (.seq (.set 3 (.bin .Mod (.blt "int" (.cons (.bin .Mult (.var 3) (.bin .Add (.bin .Mod (.blt "int" (.cons (.var 3) .nil)) (.int 10007)) (.bin .Mult (.int 83) (.sub (.var 0) (.int 2))))) .nil)) (.int 2305843009213693907))) (.ret (.bin .Mod (.blt "int" (.cons (.bin .FloorDiv (.var 3) (.int 103)) .nil)) (.var 1))))))))
theorem i__law_take (a0 a1 : D) : ini N__law_take [a0, a1] = [.val a0, .val a1, .un, .un, .un] := rfl
def N__law_pots : List Str := ["_law_script", "_law_most", "_law_k"]
def h__law_pots : Hint := ⟨[], [], false⟩
def c__law_pots : CS := (.ret (.comp (.call "_law_pot" (.cons (.var 0) (.cons (.var 2) .nil))) (.nm 2) (.rng1 (.blt "max" (.cons (.int 1) (.cons (.blt "min" (.cons (.blt "int" (.cons (.var 1) .nil)) (.cons (.blt "len" (.cons (.var 0) .nil)) .nil))) .nil)))) .no [2]))
theorem i__law_pots (a0 a1 : D) : ini N__law_pots [a0, a1] = [.val a0, .val a1, .un] := rfl
def N__law_of : List Str := ["_law_pot_here", "_law_some"]
def h__law_of : Hint := ⟨[], [], false⟩
def c__law_of : CS := (.ret (.sub (.var 1) (.call "_law_take" (.cons (.var 0) (.cons (.blt "len" (.cons (.var 1) .nil)) .nil)))))
theorem i__law_of (a0 a1 : D) : ini N__law_of [a0, a1] = [.val a0, .val a1] := rfl
def N__law_turned : List Str := ["_law_pot_here", "_law_some", "_law_at", "_law_row"]
def h__law_turned : Hint := ⟨[], [], false⟩
def c__law_turned : CS := (.seq (.set 2 (.call "_law_take" (.cons (.var 0) (.cons (.blt "len" (.cons (.var 1) .nil)) .nil)))) (.seq (.set 3 (.bin .Add (.slice (.var 1) (.yes (.var 2)) .no) (.slice (.var 1) .no (.yes (.var 2))))) (.ret (.ife (.cmp .Eq (.call "_law_take" (.cons (.var 0) (.cons (.int 2) .nil))) (.int 1)) (.rev (.var 3)) (.var 3)))))
theorem i__law_turned (a0 a1 : D) : ini N__law_turned [a0, a1] = [.val a0, .val a1, .un, .un] := rfl
def N__law_names : List Str := ["_law_pot_here", "_law_many", "_law_small", "_law_stem", "_law_found", "_law_spot", "_law_at", "_law_k", "_law_turn"]
def h__law_names : Hint := ⟨[], [], false⟩
def c__law_names : CS := (.seq (.set 2 (.str "abcdefghijklmnopqrstuvwxyz")) (.seq (.set 3 (.mcall (.str "") "join" (.cons (.comp (.call "_law_of" (.cons (.var 0) (.cons (.var 2) .nil))) (.nm 8) (.rng1 (.call "_law_of" (.cons (.var 0) (.cons (.lst (.cons (.int 0) (.cons (.int 0) (.cons (.int 1) (.cons (.int 2) (.cons (.int 3) (.cons (.int 4) (.cons (.int 5) (.cons (.int 6) (.cons (.int 7) .nil)))))))))) .nil)))) .no [8]) .nil))) (.seq (.par [5, 6] [false, false] (.cons (.call "_law_take" (.cons (.var 0) (.cons (.bin .Add (.blt "len" (.cons (.var 3) .nil)) (.int 1)) .nil))) (.cons (.call "_law_take" (.cons (.var 0) (.cons (.int 26) .nil))) .nil))) (.seq (.set 4 (.comp (.bin .Add (.bin .Add (.slice (.var 3) .no (.yes (.var 5))) (.sub (.var 2) (.bin .Mod (.blt "int" (.cons (.bin .Add (.var 6) (.bin .Mult (.int 5) (.var 7))) .nil)) (.int 26)))) (.slice (.var 3) (.yes (.var 5)) .no)) (.nm 7) (.rng1 (.var 1)) .no [7])) (.ret (.sortset (.var 4)))))))
theorem i__law_names (a0 a1 : D) : ini N__law_names [a0, a1] = [.val a0, .val a1, .un, .un, .un, .un, .un, .un, .un] := rfl
def N__law_far : List Str := ["_law_pot_here"]
def h__law_far : Hint := ⟨[], [], false⟩
def c__law_far : CS := (.ret (.call "_law_of" (.cons (.var 0) (.cons (.lst (.cons (.int 1) (.cons (.int 1) (.cons (.int 2) (.cons (.int 2) (.cons (.int 3) (.cons (.int 1) (.cons (.int 4) (.cons (.int 2) (.cons (.int 5) (.cons (.int 3) (.cons (.bin .Add (.int 1) (.call "_law_take" (.cons (.var 0) (.cons (.int 12) .nil)))) (.cons (.bin .Add (.int 1) (.call "_law_take" (.cons (.var 0) (.cons (.int 90) .nil)))) .nil))))))))))))) .nil))))
theorem i__law_far (a0 : D) : ini N__law_far [a0] = [.val a0] := rfl
def N__law_pairs : List Str := ["_law_pot_here", "_law_routers", "_law_many", "_law_is_joined", "_law_at", "_law_rest", "_law_order", "_law_found", "_law_a", "_law_other", "_law_b"]
def h__law_pairs : Hint := ⟨[5, 7], [], false⟩
def c__law_pairs : CS := (.seq (.par [6, 7] [false, true] (.cons (.call "_law_turned" (.cons (.var 0) (.cons (.blt "list" (.cons (.var 1) .nil)) .nil))) (.cons (.lst .nil) .nil))) (.seq (.set 3 (.cmp .Gt (.call "_law_take" (.cons (.var 0) (.cons (.int 8) .nil))) (.int 0))) (.seq (.loop (.nm 4) (.rng2 (.int 1) (.blt "len" (.cons (.var 6) .nil))) (.iff (.or (.var 3) (.cmp .Eq (.call "_law_take" (.cons (.var 0) (.cons (.int 2) .nil))) (.int 1))) (.seq (.set 9 (.sub (.var 6) (.bin .Sub (.bin .Sub (.var 4) (.int 1)) (.call "_law_take" (.cons (.var 0) (.cons (.blt "min" (.cons (.var 4) (.cons (.int 2) .nil))) .nil)))))) (.app 7 (.ife (.cmp .Lt (.sub (.var 6) (.var 4)) (.var 9)) (.tup (.cons (.sub (.var 6) (.var 4)) (.cons (.var 9) .nil))) (.tup (.cons (.var 9) (.cons (.sub (.var 6) (.var 4)) .nil)))))) .skip)) (.seq (.setOwn 5 (.lst .nil)) (.seq (.loop (.nms [4, 8]) (.enum (.var 1)) (.ext 5 (.comp (.tup (.cons (.var 8) (.cons (.var 10) .nil))) (.nm 10) (.ex (.slice (.var 1) (.yes (.bin .Add (.var 4) (.int 1))) .no)) (.yes (.cmp .NotIn (.tup (.cons (.var 8) (.cons (.var 10) .nil))) (.var 7))) [10]))) (.ret (.ife (.cmp .NotEq (.var 5) (.lst .nil)) (.bin .Add (.var 7) (.slice (.call "_law_turned" (.cons (.var 0) (.cons (.var 5) .nil))) .no (.yes (.blt "max" (.cons (.int 0) (.cons (.bin .Sub (.blt "int" (.cons (.var 2) .nil)) (.blt "len" (.cons (.var 7) .nil))) .nil)))))) (.var 7))))))))
theorem i__law_pairs (a0 a1 a2 : D) : ini N__law_pairs [a0, a1, a2] = [.val a0, .val a1, .val a2, .un, .un, .un, .un, .un, .un, .un, .un] := rfl
def N__law_world : List Str := ["_law_pot_here", "_law_least", "_law_most", "_law_more", "_law_many", "_law_routers", "_law_pairs_here", "_law_links", "_law_is_even", "_law_a", "_law_b", "_law_there"]
def h__law_world : Hint := ⟨[7], [], false⟩
def c__law_world : CS := (.seq (.set 4 (.bin .Add (.var 1) (.call "_law_take" (.cons (.var 0) (.cons (.bin .Add (.bin .Sub (.var 2) (.var 1)) (.int 1)) .nil))))) (.seq (.set 5 (.blt "tuple" (.cons (.call "_law_names" (.cons (.var 0) (.cons (.var 4) .nil))) .nil))) (.seq (.set 6 (.call "_law_pairs" (.cons (.var 0) (.cons (.var 5) (.cons (.blt "min" (.cons (.int 16) (.cons (.bin .Add (.bin .Sub (.var 4) (.int 1)) (.call "_law_take" (.cons (.var 0) (.cons (.bin .Add (.var 3) (.int 1)) .nil)))) .nil))) .nil))))) (.seq (.par [7, 8] [true, false] (.cons (.lst .nil) (.cons (.cmp .Eq (.call "_law_take" (.cons (.var 0) (.cons (.int 2) .nil))) (.int 0)) .nil))) (.seq (.loop (.nms [9, 10]) (.ex (.var 6)) (.seq (.set 11 (.call "_law_far" (.cons (.var 0) .nil))) (.app 7 (.tup (.cons (.var 9) (.cons (.var 10) (.cons (.var 11) (.cons (.ife (.var 8) (.var 11) (.call "_law_far" (.cons (.var 0) .nil))) .nil)))))))) (.ret (.tup (.cons (.var 5) (.cons (.blt "tuple" (.cons (.sortset (.var 7)) .nil)) .nil)))))))))
theorem i__law_world (a0 a1 a2 a3 : D) : ini N__law_world [a0, a1, a2, a3] = [.val a0, .val a1, .val a2, .val a3, .un, .un, .un, .un, .un, .un, .un, .un] := rfl
def N__law_made : List Str := ["_law_world_here"]
def h__law_made : Hint := ⟨[], [], false⟩
def c__law_made : CS := (.ret (.call "Net" (.cons (.sub (.var 0) (.int 0)) (.cons (.sub (.var 0) (.int 1)) .nil))))
theorem i__law_made (a0 : D) : ini N__law_made [a0] = [.val a0] := rfl
def N__law_lengths : List Str := ["_law_links", "_law_found", "_law_a", "_law_b", "_law_there", "_law_back"]
def h__law_lengths : Hint := ⟨[1], [1], false⟩
def c__law_lengths : CS := (.seq (.setOwn 1 (.dnew true)) (.seq (.loop (.nms [2, 3, 4, 5]) (.ex (.var 0)) (.puts [(1, some (.tup (.cons (.var 2) (.cons (.var 3) .nil)))), (1, some (.tup (.cons (.var 3) (.cons (.var 2) .nil))))] (.cons (.var 4) (.cons (.var 5) .nil)))) (.ret (.var 1))))
theorem i__law_lengths (a0 : D) : ini N__law_lengths [a0] = [.val a0, .un, .un, .un, .un, .un] := rfl
def N__law_sums : List Str := ["_law_lengths_here", "_law_routers", "_law_a", "_law_d", "_law_found", "_law_waiting", "_law_b", "_law_row", "_law_total"]
def h__law_sums : Hint := ⟨[5, 4], [], false⟩
def c__law_sums : CS := (.seq (.par [4, 5] [true, true] (.cons (.lst .nil) (.cons (.lst (.cons (.tup (.cons (.tup (.cons (.var 2) .nil)) (.cons (.int 0) .nil))) .nil)) .nil))) (.seq (.whl (.cmp .NotEq (.var 5) (.lst .nil)) (.seq (.popTo [7, 8] 5) (.seq (.iff (.cmp .Eq (.sub (.var 7) (.neg (.int 1))) (.var 3)) (.seq (.app 4 (.var 8)) .cont) .skip) (.loop (.nm 6) (.ex (.var 1)) (.iff (.and (.cmp .NotIn (.var 6) (.var 7)) (.cmp .In (.tup (.cons (.sub (.var 7) (.neg (.int 1))) (.cons (.var 6) .nil))) (.var 0))) (.app 5 (.tup (.cons (.bin .Add (.var 7) (.tup (.cons (.var 6) .nil))) (.cons (.bin .Add (.var 8) (.sub (.var 0) (.tup (.cons (.sub (.var 7) (.neg (.int 1))) (.cons (.var 6) .nil))))) .nil)))) .skip))))) (.ret (.var 4))))
theorem i__law_sums (a0 a1 a2 a3 : D) : ini N__law_sums [a0, a1, a2, a3] = [.val a0, .val a1, .val a2, .val a3, .un, .un, .un, .un, .un] := rfl
def N__law_fine : List Str := ["_law_pot_here", "_law_world_here", "_law_a", "_law_made_here", "_law_lengths_here", "_law_d", "_law_sums_here", "_law_due", "_law_one"]
def h__law_fine : Hint := ⟨[], [], false⟩
def c__law_fine : CS := (.seq (.set 1 (.call "_law_world" (.cons (.var 0) (.cons (.int 2) (.cons (.int 6) (.cons (.int 6) .nil)))))) (.seq (.par [3, 4] [false, false] (.cons (.call "_law_made" (.cons (.var 1) .nil)) (.cons (.call "_law_lengths" (.cons (.sub (.var 1) (.int 1)) .nil)) .nil))) (.seq (.loop (.nm 2) (.ex (.sub (.var 1) (.int 0))) (.loop (.nm 5) (.ex (.sub (.var 1) (.int 0))) (.seq (.par [6, 7] [false, false] (.cons (.blt "sorted" (.cons (.call "_law_sums" (.cons (.var 4) (.cons (.sub (.var 1) (.int 0)) (.cons (.var 2) (.cons (.var 5) .nil))))) .nil)) (.cons (.tup (.cons .non (.cons (.int 0) .nil))) .nil))) (.seq (.iff (.cmp .NotEq (.var 6) (.lst .nil)) (.set 7 (.tup (.cons (.sub (.var 6) (.int 0)) (.cons (.blt "len" (.cons (.comp (.var 8) (.nm 8) (.ex (.var 6)) (.yes (.cmp .Eq (.var 8) (.sub (.var 6) (.int 0)))) [8]) .nil)) .nil)))) .skip) (.iff (.cmp .NotEq (.blt "repr" (.cons (.tup (.cons (.call "distance" (.cons (.var 3) (.cons (.var 2) (.cons (.var 5) .nil)))) (.cons (.call "ways" (.cons (.var 3) (.cons (.var 2) (.cons (.var 5) .nil)))) .nil))) .nil)) (.blt "repr" (.cons (.var 7) .nil))) (.ret (.bl false)) .skip))))) (.ret (.bl true)))))
theorem i__law_fine (a0 : D) : ini N__law_fine [a0] = [.val a0, .un, .un, .un, .un, .un, .un, .un, .un] := rfl
def N_law : List Str := ["_law_script", "_law_pot_here"]
def h_law : Hint := ⟨[], [], false⟩
def c_law : CS := (.ret (.blt "all" (.cons (.comp (.call "_law_fine" (.cons (.var 1) .nil)) (.nm 1) (.ex (.call "_law_pots" (.cons (.var 0) (.cons (.int 3) .nil)))) .no [1]) .nil)))
theorem i_law (a0 : D) : ini N_law [a0] = [.val a0, .un] := rfl
end Q

set_option Elab.async false
set_option linter.all false
set_option maxRecDepth 100000
set_option maxHeartbeats 1000000
namespace Q
open PySem PySem.Spec PyProof.Rows L2
local macro_rules
  | `(tactic| exists run1) => `(tactic| (first
      | with_reducible refine Ex.seq ?_ | with_reducible refine Ex.set ?_ | with_reducible refine Ex.ret ?_ | with_reducible refine Ex.exp ?_ | with_reducible refine Ex.setOwn ?_ | with_reducible refine Ex.unpack ?_ | with_reducible refine Ex.par ?_ | with_reducible refine Ex.put ?_ | with_reducible refine Ex.app ?_ | with_reducible refine Ex.ext ?_ | with_reducible refine Ex.iff ?_ | with_reducible refine Ex.skip ?_ | with_reducible refine Ex.retN ?_ | with_reducible refine Ex.cont ?_ | with_reducible refine Ex.puts ?_ | with_reducible refine Ex.setA ?_ | with_reducible refine Ex.loop ?_
      | (with_reducible refine Ee.isv ?_; refine Ee.var rfl ?_)
      | with_reducible refine Ee.int ?_ | with_reducible refine Ee.bl ?_ | with_reducible refine Ee.str ?_ | with_reducible refine Ee.non ?_ | with_reducible refine Ee.tup ?_ | with_reducible refine Ee.lst ?_ | with_reducible refine Ee.bin ?_ | with_reducible refine Ee.neg ?_ | with_reducible refine Ee.cmp ?_ | with_reducible refine Ee.chain ?_ | with_reducible refine Ee.and ?_ | with_reducible refine Ee.or ?_ | with_reducible refine Ee.not ?_ | with_reducible refine Ee.ife ?_ | with_reducible refine Ee.sub ?_ | with_reducible refine Ee.slice ?_ | with_reducible refine Ee.rev ?_ | with_reducible refine Ee.sortset ?_ | with_reducible refine Ee.isi ?_ | with_reducible refine Ee.blt ?_ | with_reducible refine Ee.dct ?_ | with_reducible refine Ee.dnewT ?_ | with_reducible refine Ee.dnewK ?_
      | with_reducible refine El.cons ?_ | with_reducible refine El.nil ?_ | with_reducible refine Ep.nil ?_ | with_reducible refine Ep.val ?_ | with_reducible refine Ep.own ?_ | with_reducible refine Eo.no ?_ | with_reducible refine Eo.yes ?_ | with_reducible refine Eb.no ?_ | with_reducible refine Eb.yes ?_
      | with_reducible refine Ei.exv ?_ | with_reducible refine Ei.ex rfl ?_ | with_reducible refine Ei.rng1 ?_ | with_reducible refine Ei.rng2 ?_ | with_reducible refine Ei.enum ?_ | with_reducible refine Ei.zip ?_
      | with_reducible refine Aft.nx ?_ | with_reducible refine Aft.rt ?_ | with_reducible refine Aft.ct ?_ | with_reducible refine Trn.nx ?_ | with_reducible refine Trn.rt ?_ | with_reducible refine Trn.ct ?_ | with_reducible refine Fin.rt ?_ | with_reducible refine Fin.nx ?_
      | with_reducible refine Ts.mk ?_ | with_reducible refine Pt.mk ?_ | with_reducible refine exb ?_ | with_reducible refine exi ?_ | with_reducible refine exii ?_
      | with_reducible refine pr_add ?_ | with_reducible refine pr_sub ?_ | with_reducible refine pr_gt ?_ | with_reducible refine pr_le ?_ | with_reducible refine pr_ge ?_ | with_reducible refine pr_lt ?_ | with_reducible refine pr_lts ?_ | with_reducible refine pr_eqi ?_ | with_reducible refine pr_nei ?_ | with_reducible refine pr_eqs ?_ | with_reducible refine pr_nes ?_ | with_reducible refine pr_eqb ?_ | with_reducible refine pr_in ?_ | with_reducible refine pr_nin ?_
      | with_reducible refine pr_len_l ?_ | with_reducible refine pr_len_t ?_ | with_reducible refine pr_len_r ?_ | with_reducible refine pr_len_k ?_ | with_reducible refine pr_abs ?_ | with_reducible refine pr_max ?_ | with_reducible refine pr_min ?_ | with_reducible refine pr_int ?_ | with_reducible refine pr_intb ?_ | with_reducible refine pr_tup_l ?_ | with_reducible refine pr_list_l ?_ | with_reducible refine pr_list_t ?_ | with_reducible refine pr_sorted ?_ | with_reducible refine pr_repr ?_
      | with_reducible refine pr_items_l ?_ | with_reducible refine pr_items_t ?_ | with_reducible refine pr_keys_l ?_ | with_reducible refine pr_keys_t ?_ | with_reducible refine pr_keys_k ?_ | with_reducible refine pr_keys_kt ?_ | with_reducible refine pr_sl_l ?_ | with_reducible refine pr_sl_t ?_ | with_reducible refine pr_rev ?_ | with_reducible refine pr_bind1 ?_ | with_reducible refine pr_binds1 ?_
      | (with_reducible refine pr_cell (by assumption) ?_ ?_; exact rfl)
      | rw [sF_vals rfl]))
/-! ### plain data: None, ints, texts, tuples and lists of these -/
mutual
def plD : D → Bool
  | .non => true
  | .int _ => true
  | .str s => PyData.canLay0 (.str s)
  | .tup xs => plL xs
  | .lst xs => plL xs
  | _ => false
def plL : List D → Bool
  | [] => true
  | x :: xs => plD x && plL xs
end
mutual
def dpD : D → Nat
  | .tup xs => dpL xs + 1
  | .lst xs => dpL xs + 1
  | _ => 0
def dpL : List D → Nat
  | [] => 0
  | x :: xs => max (dpD x) (dpL xs)
end
mutual
theorem py_pl : ∀ (d : D), plD d = true → ∃ p, D.py d = some p ∧ p.canLay0 = true ∧ p.depth = dpD d
  | .non, _ => ⟨.none, rfl, rfl, rfl⟩
  | .int i, _ => ⟨.int i, rfl, rfl, rfl⟩
  | .str s, h => ⟨.str s, rfl, h, rfl⟩
  | .tup xs, h => by
    obtain ⟨ps, h1, h2, h3⟩ := pyL_pl xs h
    exact ⟨.tuple ps, by rw [D.py, h1]; rfl, by rw [PyData.canLay0]; exact h2, by rw [PyData.depth, dpD, h3]⟩
  | .lst xs, h => by
    obtain ⟨ps, h1, h2, h3⟩ := pyL_pl xs h
    exact ⟨.list ps, by rw [D.py, h1]; rfl, by rw [PyData.canLay0]; exact h2, by rw [PyData.depth, dpD, h3]⟩
  | .bl _, h => by cases h
  | .dK _ _, h => by cases h
  | .dT _ _, h => by cases h
  | .obj _ _ _, h => by cases h
  | .cell _, h => by cases h
  | .scr _, h => by cases h
  | .inst _ _ _ _, h => by cases h
theorem pyL_pl : ∀ (ds : List D), plL ds = true → ∃ ps, D.pyL ds = some ps ∧ PyData.canLayAll0 ps = true ∧ PyData.depthAll ps = dpL ds
  | [], _ => ⟨[], rfl, rfl, rfl⟩
  | d :: ds, h => by
    rw [plL, Bool.and_eq_true] at h
    obtain ⟨p, h1, h2, h3⟩ := py_pl d h.1
    obtain ⟨ps, h4, h5, h6⟩ := pyL_pl ds h.2
    exact ⟨p :: ps, by rw [D.pyL, h1, h4], by rw [PyData.canLayAll0, h2, h5]; rfl, by rw [PyData.depthAll, dpL, h3, h6]⟩
end
mutual
theorem eqv_pl : ∀ (a b : D) (p q : PyData), plD a = true → plD b = true → D.py a = some p → D.py b = some q → (PyData.eqv p q = true ↔ a = b)
  | .non, b, p, q, ha, hb, e1, e2 => by
    cases e1
    cases b with
    | non => cases e2; simp [PyData.eqv]
    | int _ => cases e2; simp [PyData.eqv]
    | str _ => cases e2; simp [PyData.eqv]
    | tup ys => obtain ⟨ps, h1, _⟩ := pyL_pl ys hb; rw [D.py, h1] at e2; cases e2; simp [PyData.eqv]
    | lst ys => obtain ⟨ps, h1, _⟩ := pyL_pl ys hb; rw [D.py, h1] at e2; cases e2; simp [PyData.eqv]
    | _ => cases hb
  | .int i, b, p, q, ha, hb, e1, e2 => by
    cases e1
    cases b with
    | non => cases e2; simp [PyData.eqv]
    | int _ => cases e2; simp [PyData.eqv]
    | str _ => cases e2; simp [PyData.eqv]
    | tup ys => obtain ⟨ps, h1, _⟩ := pyL_pl ys hb; rw [D.py, h1] at e2; cases e2; simp [PyData.eqv]
    | lst ys => obtain ⟨ps, h1, _⟩ := pyL_pl ys hb; rw [D.py, h1] at e2; cases e2; simp [PyData.eqv]
    | _ => cases hb
  | .str s, b, p, q, ha, hb, e1, e2 => by
    cases e1
    cases b with
    | non => cases e2; simp [PyData.eqv]
    | int _ => cases e2; simp [PyData.eqv]
    | str _ => cases e2; simp [PyData.eqv]
    | tup ys => obtain ⟨ps, h1, _⟩ := pyL_pl ys hb; rw [D.py, h1] at e2; cases e2; simp [PyData.eqv]
    | lst ys => obtain ⟨ps, h1, _⟩ := pyL_pl ys hb; rw [D.py, h1] at e2; cases e2; simp [PyData.eqv]
    | _ => cases hb
  | .tup xs, b, p, q, ha, hb, e1, e2 => by
    obtain ⟨ps, h1, _⟩ := pyL_pl xs ha
    rw [D.py, h1] at e1
    cases e1
    cases b with
    | non => cases e2; simp [PyData.eqv]
    | int _ => cases e2; simp [PyData.eqv]
    | str _ => cases e2; simp [PyData.eqv]
    | tup ys =>
      obtain ⟨qs, h2, _⟩ := pyL_pl ys hb
      rw [D.py, h2] at e2
      cases e2
      rw [PyData.eqv, eqvL_pl xs ys ps qs ha hb h1 h2]
      exact ⟨fun e => by rw [e], fun e => by cases e; rfl⟩
    | lst ys => obtain ⟨qs, h2, _⟩ := pyL_pl ys hb; rw [D.py, h2] at e2; cases e2; simp [PyData.eqv]
    | _ => cases hb
  | .lst xs, b, p, q, ha, hb, e1, e2 => by
    obtain ⟨ps, h1, _⟩ := pyL_pl xs ha
    rw [D.py, h1] at e1
    cases e1
    cases b with
    | non => cases e2; simp [PyData.eqv]
    | int _ => cases e2; simp [PyData.eqv]
    | str _ => cases e2; simp [PyData.eqv]
    | lst ys =>
      obtain ⟨qs, h2, _⟩ := pyL_pl ys hb
      rw [D.py, h2] at e2
      cases e2
      rw [PyData.eqv, eqvL_pl xs ys ps qs ha hb h1 h2]
      exact ⟨fun e => by rw [e], fun e => by cases e; rfl⟩
    | tup ys => obtain ⟨qs, h2, _⟩ := pyL_pl ys hb; rw [D.py, h2] at e2; cases e2; simp [PyData.eqv]
    | _ => cases hb
  | .bl _, _, _, _, h, _, _, _ => by cases h
  | .dK _ _, _, _, _, h, _, _, _ => by cases h
  | .dT _ _, _, _, _, h, _, _, _ => by cases h
  | .obj _ _ _, _, _, _, h, _, _, _ => by cases h
  | .cell _, _, _, _, h, _, _, _ => by cases h
  | .scr _, _, _, _, h, _, _, _ => by cases h
  | .inst _ _ _ _, _, _, _, h, _, _, _ => by cases h
theorem eqvL_pl : ∀ (xs ys : List D) (ps qs : List PyData), plL xs = true → plL ys = true → D.pyL xs = some ps → D.pyL ys = some qs → (PyData.eqvAll ps qs = true ↔ xs = ys)
  | [], ys, ps, qs, ha, hb, e1, e2 => by
    cases e1
    cases ys with
    | nil => cases e2; simp [PyData.eqvAll]
    | cons y ys =>
      rw [plL, Bool.and_eq_true] at hb
      obtain ⟨p, h1, _⟩ := py_pl y hb.1
      obtain ⟨ps, h2, _⟩ := pyL_pl ys hb.2
      rw [D.pyL, h1, h2] at e2
      cases e2
      simp [PyData.eqvAll]
  | x :: xs, ys, ps, qs, ha, hb, e1, e2 => by
    rw [plL, Bool.and_eq_true] at ha
    obtain ⟨p, h1, _⟩ := py_pl x ha.1
    obtain ⟨ps', h2, _⟩ := pyL_pl xs ha.2
    rw [D.pyL, h1, h2] at e1
    cases e1
    cases ys with
    | nil => cases e2; simp [PyData.eqvAll]
    | cons y ys =>
      rw [plL, Bool.and_eq_true] at hb
      obtain ⟨q, h3, _⟩ := py_pl y hb.1
      obtain ⟨qs', h4, _⟩ := pyL_pl ys hb.2
      rw [D.pyL, h3, h4] at e2
      cases e2
      rw [PyData.eqvAll, Bool.and_eq_true, eqv_pl x y p q ha.1 hb.1 h1 h3, eqvL_pl xs ys ps' qs' ha.2 hb.2 h2 h4, List.cons.injEq]
end
theorem flat_pl : ∀ {a b : D}, isFlat a = true → isFlat b = true → plD a = true → plD b = true → (flatEq a b = true ↔ a = b) := by
  intro a b ha hb pa pb
  cases a <;> cases b <;> simp_all [plD, isFlat, flatEq]
theorem eqD_pl {a b : D} (ha : plD a = true) (hb : plD b = true) (da : dpD a ≤ 60) (db : dpD b ≤ 60) : ∃ c, eqD a b = some c ∧ (c = true ↔ a = b) := by
  unfold eqD
  by_cases hf : (isFlat a && isFlat b) = true
  · rw [if_pos hf]
    rw [Bool.and_eq_true] at hf
    exact ⟨_, rfl, flat_pl hf.1 hf.2 ha hb⟩
  · rw [if_neg hf]
    obtain ⟨p, h1, h2, h3⟩ := py_pl a ha
    obtain ⟨q, h4, h5, h6⟩ := py_pl b hb
    rw [h1, h4]
    dsimp only
    have s1 : SeqAt.shaped p = true := by unfold SeqAt.shaped; rw [h2, h3, Bool.true_and]; exact decide_eq_true (by omega)
    have s2 : SeqAt.shaped q = true := by unfold SeqAt.shaped; rw [h5, h6, Bool.true_and]; exact decide_eq_true (by omega)
    rw [s1, s2]
    exact ⟨_, rfl, eqv_pl a b p q ha hb h1 h4⟩
theorem plL_all {ds : List D} : plL ds = true ↔ ∀ d ∈ ds, plD d = true := by
  induction ds with
  | nil => simp [plL]
  | cons d ds ih => rw [plL, Bool.and_eq_true, ih]; simp
theorem dpL_le {ds : List D} {n : Nat} : dpL ds ≤ n ↔ ∀ d ∈ ds, dpD d ≤ n := by
  induction ds with
  | nil => simp [dpL]
  | cons d ds ih =>
    rw [dpL, Nat.max_le, ih]
    simp
theorem inD_pl {x : D} {ys : List D} (hx : plD x = true) (hy : plL ys = true) (dx : dpD x ≤ 60) (dy : dpL ys ≤ 60) : ∃ c, inD x (.lst ys) = some c ∧ (c = true ↔ x ∈ ys) := by
  unfold inD
  dsimp only
  by_cases hf : (isFlat x && ys.all isFlat) = true
  · rw [if_pos hf]
    refine ⟨_, rfl, ?_⟩
    rw [Bool.and_eq_true] at hf
    rw [List.any_eq_true]
    constructor
    · rintro ⟨z, hz, e⟩
      rw [← (flat_pl (List.all_eq_true.mp hf.2 z hz) hf.1 (plL_all.mp hy z hz) hx).mp e]; exact hz
    · intro h
      exact ⟨x, h, (flat_pl hf.1 hf.1 hx hx).mpr rfl⟩
  · rw [if_neg hf]
    obtain ⟨p, h1, h2, h3⟩ := py_pl x hx
    obtain ⟨qs, h4, h5, h6⟩ := pyL_pl ys hy
    rw [h1, h4]
    dsimp only
    have s1 : SeqAt.shaped p = true := by unfold SeqAt.shaped; rw [h2, h3, Bool.true_and]; exact decide_eq_true (by omega)
    have s2 : SeqAt.shaped (.list qs) = true := by unfold SeqAt.shaped; rw [PyData.canLay0, h5, PyData.depth, h6, Bool.true_and]; exact decide_eq_true (by omega)
    rw [s1, s2]
    refine ⟨_, rfl, ?_⟩
    clear s1 s2 hf h5 h6 dy h3
    induction ys generalizing qs with
    | nil => cases h4; simp
    | cons y ys ih =>
      rw [plL, Bool.and_eq_true] at hy
      obtain ⟨q, h7, _⟩ := py_pl y hy.1
      obtain ⟨qs', h8, _⟩ := pyL_pl ys hy.2
      rw [D.pyL, h7, h8] at h4
      cases h4
      rw [List.any_cons, Bool.or_eq_true, ih hy.2 qs' h8, eqv_pl y x q p hy.1 hx h7 h1, List.mem_cons]
      exact ⟨fun h => h.imp (fun e => e.symm) id, fun h => h.imp (fun e => e.symm) id⟩
/-- in a tuple of flat things -/
theorem inT_pl {x : D} {ys : List D} (hx : isFlat x = true) (hy : ys.all isFlat = true) (px : plD x = true) (py : plL ys = true) : ∃ c, inD x (.tup ys) = some c ∧ (c = true ↔ x ∈ ys) := by
  unfold inD
  dsimp only
  rw [hx, hy]
  refine ⟨_, rfl, ?_⟩
  rw [List.any_eq_true]
  constructor
  · rintro ⟨z, hz, e⟩
    rw [← (flat_pl (List.all_eq_true.mp hy z hz) hx (plL_all.mp py z hz) px).mp e]; exact hz
  · intro h
    exact ⟨x, h, (flat_pl hx hx px px).mpr rfl⟩
section
variable {a b : D} {ys : List D} {QB : Bool → Prop}
theorem pr_eqpl (ha : plD a = true) (hb : plD b = true) (da : dpD a ≤ 60) (db : dpD b ≤ 60) (h : ∀ c : Bool, (c = true ↔ a = b) → QB c) : Pr (cmpD .Eq a b) QB := by
  obtain ⟨c, e, h1⟩ := eqD_pl ha hb da db
  exact ⟨c, e, h c h1⟩
theorem pr_nepl (ha : plD a = true) (hb : plD b = true) (da : dpD a ≤ 60) (db : dpD b ≤ 60) (h : ∀ c : Bool, (c = false ↔ a = b) → QB c) : Pr (cmpD .NotEq a b) QB := by
  obtain ⟨c, e, h1⟩ := eqD_pl ha hb da db
  refine pr_ne ⟨c, e, h _ ?_⟩
  rw [← h1]
  cases c <;> simp
theorem pr_inl (ha : plD a = true) (hb : plL ys = true) (da : dpD a ≤ 60) (db : dpL ys ≤ 60) (h : ∀ c : Bool, (c = true ↔ a ∈ ys) → QB c) : Pr (inD a (.lst ys)) QB := by
  obtain ⟨c, e, h1⟩ := inD_pl ha hb da db
  exact ⟨c, e, h c h1⟩
theorem pr_intup (hx : isFlat a = true) (hy : ys.all isFlat = true) (px : plD a = true) (py : plL ys = true) (h : ∀ c : Bool, (c = true ↔ a ∈ ys) → QB c) : Pr (inD a (.tup ys)) QB := by
  obtain ⟨c, e, h1⟩ := inT_pl hx hy px py
  exact ⟨c, e, h c h1⟩
end
/-! which kinds are in it -/
theorem hasLs_all {ds : List D} : D.hasLs ds = false ↔ ∀ d ∈ ds, D.hasL d = false := by
  induction ds with
  | nil => simp [D.hasLs]
  | cons d ds ih => rw [D.hasLs, Bool.or_eq_false_iff, ih]; simp
theorem hasMs_all {ds : List D} : D.hasMs ds = false ↔ ∀ d ∈ ds, D.hasM d = false := by
  induction ds with
  | nil => simp [D.hasMs]
  | cons d ds ih => rw [D.hasMs, Bool.or_eq_false_iff, ih]; simp
end Q

set_option Elab.async false
set_option linter.all false
set_option maxRecDepth 100000
set_option maxHeartbeats 1000000
namespace Q
open PySem PySem.Spec PyProof.Rows L2
local macro_rules
  | `(tactic| exists run1) => `(tactic| (first
      | with_reducible refine Ex.seq ?_ | with_reducible refine Ex.set ?_ | with_reducible refine Ex.ret ?_ | with_reducible refine Ex.exp ?_ | with_reducible refine Ex.setOwn ?_ | with_reducible refine Ex.unpack ?_ | with_reducible refine Ex.par ?_ | with_reducible refine Ex.put ?_ | with_reducible refine Ex.app ?_ | with_reducible refine Ex.ext ?_ | with_reducible refine Ex.iff ?_ | with_reducible refine Ex.skip ?_ | with_reducible refine Ex.retN ?_ | with_reducible refine Ex.cont ?_ | with_reducible refine Ex.puts ?_ | with_reducible refine Ex.setA ?_ | with_reducible refine Ex.loop ?_
      | (with_reducible refine Ee.isv ?_; refine Ee.var rfl ?_)
      | with_reducible refine Ee.int ?_ | with_reducible refine Ee.bl ?_ | with_reducible refine Ee.str ?_ | with_reducible refine Ee.non ?_ | with_reducible refine Ee.tup ?_ | with_reducible refine Ee.lst ?_ | with_reducible refine Ee.bin ?_ | with_reducible refine Ee.neg ?_ | with_reducible refine Ee.cmp ?_ | with_reducible refine Ee.chain ?_ | with_reducible refine Ee.and ?_ | with_reducible refine Ee.or ?_ | with_reducible refine Ee.not ?_ | with_reducible refine Ee.ife ?_ | with_reducible refine Ee.sub ?_ | with_reducible refine Ee.slice ?_ | with_reducible refine Ee.rev ?_ | with_reducible refine Ee.sortset ?_ | with_reducible refine Ee.isi ?_ | with_reducible refine Ee.blt ?_ | with_reducible refine Ee.dct ?_ | with_reducible refine Ee.dnewT ?_ | with_reducible refine Ee.dnewK ?_
      | with_reducible refine El.cons ?_ | with_reducible refine El.nil ?_ | with_reducible refine Ep.nil ?_ | with_reducible refine Ep.val ?_ | with_reducible refine Ep.own ?_ | with_reducible refine Eo.no ?_ | with_reducible refine Eo.yes ?_ | with_reducible refine Eb.no ?_ | with_reducible refine Eb.yes ?_
      | with_reducible refine Ei.exv ?_ | with_reducible refine Ei.ex rfl ?_ | with_reducible refine Ei.rng1 ?_ | with_reducible refine Ei.rng2 ?_ | with_reducible refine Ei.enum ?_ | with_reducible refine Ei.zip ?_
      | with_reducible refine Aft.nx ?_ | with_reducible refine Aft.rt ?_ | with_reducible refine Aft.ct ?_ | with_reducible refine Trn.nx ?_ | with_reducible refine Trn.rt ?_ | with_reducible refine Trn.ct ?_ | with_reducible refine Fin.rt ?_ | with_reducible refine Fin.nx ?_
      | with_reducible refine Ts.mk ?_ | with_reducible refine Pt.mk ?_ | with_reducible refine exb ?_ | with_reducible refine exi ?_ | with_reducible refine exii ?_
      | with_reducible refine pr_add ?_ | with_reducible refine pr_sub ?_ | with_reducible refine pr_gt ?_ | with_reducible refine pr_le ?_ | with_reducible refine pr_ge ?_ | with_reducible refine pr_lt ?_ | with_reducible refine pr_lts ?_ | with_reducible refine pr_eqi ?_ | with_reducible refine pr_nei ?_ | with_reducible refine pr_eqs ?_ | with_reducible refine pr_nes ?_ | with_reducible refine pr_eqb ?_ | with_reducible refine pr_in ?_ | with_reducible refine pr_nin ?_
      | with_reducible refine pr_len_l ?_ | with_reducible refine pr_len_t ?_ | with_reducible refine pr_len_r ?_ | with_reducible refine pr_len_k ?_ | with_reducible refine pr_abs ?_ | with_reducible refine pr_max ?_ | with_reducible refine pr_min ?_ | with_reducible refine pr_int ?_ | with_reducible refine pr_intb ?_ | with_reducible refine pr_tup_l ?_ | with_reducible refine pr_list_l ?_ | with_reducible refine pr_list_t ?_ | with_reducible refine pr_sorted ?_ | with_reducible refine pr_repr ?_
      | with_reducible refine pr_items_l ?_ | with_reducible refine pr_items_t ?_ | with_reducible refine pr_keys_l ?_ | with_reducible refine pr_keys_t ?_ | with_reducible refine pr_keys_k ?_ | with_reducible refine pr_keys_kt ?_ | with_reducible refine pr_sl_l ?_ | with_reducible refine pr_sl_t ?_ | with_reducible refine pr_rev ?_ | with_reducible refine pr_bind1 ?_ | with_reducible refine pr_binds1 ?_
      | (with_reducible refine pr_cell (by assumption) ?_ ?_; exact rfl)
      | rw [sF_vals rfl]))
/-! ### small facts -/
theorem atI_nat {α : Type} (xs : List α) (k : Nat) : atI xs (k : Int) = xs[k]? := by
  unfold atI ixN
  rw [if_pos (Int.natCast_nonneg k)]
  by_cases h : k < xs.length
  · rw [if_pos (by omega), Int.toNat_natCast]; rfl
  · rw [if_neg (by omega)]
    exact (List.getElem?_eq_none (by omega)).symm
theorem atI_in {α : Type} {xs : List α} {i : Int} (h0 : 0 ≤ i) (h1 : i < xs.length) : ∃ (k : Nat) (h : k < xs.length), i = k ∧ atI xs i = some xs[k] := by
  obtain ⟨k, rfl⟩ := Int.eq_ofNat_of_zero_le h0
  have hk : k < xs.length := by omega
  exact ⟨k, hk, rfl, by rw [atI_nat, List.getElem?_eq_getElem hk]⟩
theorem log2_lt {n k : Nat} (h : n < 2 ^ k) (hk : 0 < k) : n.log2 < k := by
  by_cases h0 : n = 0
  · subst h0; simpa using hk
  · exact (Nat.log2_lt h0).mpr h
theorem abs_lt {i : Int} {k : Nat} (h0 : 0 ≤ i) (h : i < 2 ^ k) : i.natAbs < 2 ^ k := by
  have e : ((2 ^ k : Nat) : Int) = (2 : Int) ^ k := by simp
  have : (i.natAbs : Int) < ((2 ^ k : Nat) : Int) := by rw [e]; omega
  exact Int.ofNat_lt.mp this
theorem bits_ok {i j : Int} (h0 : 0 ≤ i) (h : i < 2 ^ 2000) (h1 : 0 ≤ j) (h2 : j < 2 ^ 2000) : bitsOk i j = true := by
  have a := log2_lt (abs_lt h0 h) (by decide)
  have b := log2_lt (abs_lt h1 h2) (by decide)
  unfold bitsOk
  exact decide_eq_true (by omega)
theorem set_get_self {st : Store} {c : Nat} {x y : List Int} (h : st[c]? = some x) : (st.set c y)[c]? = some y := by
  rw [List.getElem?_set_self (List.getElem?_eq_some_iff.mp h).1]
theorem Nxt.set {st : Store} {c b : Nat} {x y : List Int} (h : st[c]? = some x) (p : PotAt (st.set c y) c b) : Nxt c b st (st.set c y) := ⟨by rw [List.length_set], fun i hi => by rw [List.getElem?_set_ne (Ne.symm hi)], p⟩
theorem Nxt.trans {c b b' : Nat} {s1 s2 s3 : Store} (h : Nxt c b s1 s2) (k : Nxt c b' s2 s3) : Nxt c b' s1 s3 := ⟨k.1.trans h.1, fun i hi => (k.2.1 i hi).trans (h.2.1 i hi), k.2.2⟩
theorem PotAt.mono {st : Store} {c b b' : Nat} (h : PotAt st c b) (hb : b ≤ b') : PotAt st c b' := by
  obtain ⟨own, seed, cnt, h0, h1, h2, h3, h4, h5, h6⟩ := h
  exact ⟨own, seed, cnt, h0, h1, h2, h3, h4, h5, by omega⟩
theorem Nxt.mono {c b b' : Nat} {s1 s2 : Store} (h : Nxt c b s1 s2) (hb : b ≤ b') : Nxt c b' s1 s2 := ⟨h.1, h.2.1, h.2.2.mono hb⟩
theorem Nxt.refl {st : Store} {c b : Nat} (h : PotAt st c b) : Nxt c b st st := ⟨rfl, fun _ _ => rfl, h⟩
theorem Nxt.pot {c b : Nat} {s1 s2 : Store} (h : Nxt c b s1 s2) : PotAt s2 c b := h.2.2
/-! ### drawing -/
def LIM : Nat := 2 ^ 60
def P_take (m : FS) : Prop := ∀ (st : Store) (c b : Nat) (n : Int) (Q : D → Store → Prop), PotAt st c b → 0 < n → n < 2 ^ 100 → b < LIM → (∀ (r : Nat) st', (r : Int) < n → Nxt c (b + 1) st st' → Q (.int r) st') → Cl m [.cell c, .int n] st Q
theorem take_ok {T : Tab} : P_take (den T N__law_take 2 c__law_take) := by
  intro st c b n Q hp hn hl hb k
  obtain ⟨own, seed, cnt, h0, h1, h2, h3, h4, h5, h6⟩ := hp
  have hb' : b < 2 ^ 60 := hb
  have hnl : n.natAbs.log2 < 8000 := Nat.lt_of_lt_of_le (log2_lt (abs_lt (Int.le_of_lt hn) hl) (by decide)) (by decide)
  have fin : ∀ (z : Int) (s : Store), Nxt c (b + 1) st s → Q (.int (z % n)) s := fun z s hs => by
    have z0 := Int.emod_nonneg z (Int.ne_of_gt hn)
    have z1 := Int.emod_lt_of_pos z hn
    have := k (z % n).toNat s (by omega) hs
    rwa [Int.toNat_of_nonneg z0] at this
  refine Cl.den rfl (i__law_take _ _) ?_
  unfold c__law_take
  (repeat (first | exists run1 | refine pr_cell h0 rfl ?_))
  refine ⟨fun hk => ?_, fun hk => ?_⟩
  · have ho := of_decide_eq_true hk
    (repeat (first | exists run1 | refine pr_cell h0 rfl ?_ | refine pr_mod hn ?_ | refine pr_div ⟨hn, hnl⟩ ?_ | refine pr_putc rfl h0 rfl ?_))
    refine fin _ _ (Nxt.set h0 ⟨own / n, seed, cnt, set_get_self h0, Int.ediv_nonneg h1 (Int.le_of_lt hn), ?_, h3, h4, h5, by omega⟩)
    exact Int.lt_of_le_of_lt (Int.ediv_le_self _ h1) h2
  · (repeat (first | exists run1 | refine pr_cell h0 rfl ?_ | refine pr_putc rfl h0 rfl ?_))
    have h0' : (st.set c [own, seed, cnt + 1])[c]? = some [own, seed, cnt + 1] := set_get_self h0
    have e5 : ∃ p : Int, atI [D.int 2147483647, D.int 2147483629, D.int 2147483587, D.int 2147483579, D.int 2147483563] ((cnt + 1) % 5) = some (.int p) ∧ 0 < p ∧ p < 2 ^ 40 := by
      have z0 := Int.emod_nonneg (cnt + 1) (show (5 : Int) ≠ 0 by decide)
      have z1 := Int.emod_lt_of_pos (cnt + 1) (show (0 : Int) < 5 by decide)
      generalize (cnt + 1) % 5 = z at z0 z1
      have : z = 0 ∨ z = 1 ∨ z = 2 ∨ z = 3 ∨ z = 4 := by omega
      rcases this with rfl | rfl | rfl | rfl | rfl <;> exact ⟨_, rfl, by decide, by decide⟩
    obtain ⟨p, hp1, hp2, hp3⟩ := e5
    have c1 : 0 ≤ cnt + 1 := by omega
    have c2 : cnt + 1 < 2 ^ 61 := by omega
    have m1 : 99989 * (cnt + 1) < 2 ^ 80 := by omega
    have m2 : 99989 * (cnt + 1) * (cnt + 1) < 2 ^ 150 := by
      have : 99989 * (cnt + 1) * (cnt + 1) ≤ 2 ^ 80 * 2 ^ 61 := Int.mul_le_mul (by omega) (by omega) c1 (by decide)
      exact Int.lt_of_le_of_lt this (by decide)
    have m3 : 0 ≤ 99989 * (cnt + 1) * (cnt + 1) := Int.mul_nonneg (by omega) c1
    have g1 : bitsOk 99989 (cnt + 1) = true := bits_ok (by decide) (by decide) c1 (Int.lt_trans c2 (by decide))
    have g2 : bitsOk (99989 * (cnt + 1)) (cnt + 1) = true := bits_ok (by omega) (Int.lt_trans m1 (by decide)) c1 (Int.lt_trans c2 (by decide))
    have q0 : 0 ≤ seed + 99989 * (cnt + 1) * (cnt + 1) + 71 := by omega
    have q1 : seed + 99989 * (cnt + 1) * (cnt + 1) + 71 < 2 ^ 200 := by
      have : seed + 99989 * (cnt + 1) * (cnt + 1) + 71 < 2 ^ 62 + 2 ^ 150 + 71 := by omega
      exact Int.lt_trans this (by decide)
    have g3 : (0 : Int) ≤ 3 ∧ (3 : Int) ≤ 100 ∧ (seed + 99989 * (cnt + 1) * (cnt + 1) + 71).natAbs.log2 ≤ 1000 := ⟨by decide, by decide, Nat.le_of_lt (Nat.lt_of_lt_of_le (log2_lt (abs_lt q0 q1) (by decide)) (by decide))⟩
    have big : (0 : Int) < 2305843009213693907 := by decide
    have w0 : ∀ z : Int, 0 ≤ z % p ∧ z % p < 2 ^ 40 := fun z => ⟨Int.emod_nonneg z (by omega), Int.lt_trans (Int.emod_lt_of_pos z hp2) hp3⟩
    have g4 : bitsOk 83 (cnt + 1) = true := bits_ok (by decide) (by decide) c1 (Int.lt_trans c2 (by decide))
    have g5 : ∀ z : Int, bitsOk (z % p) (z % p % 10007 + 83 * (cnt + 1)) = true := fun z => by
      have y0 := Int.emod_nonneg (z % p) (show (10007 : Int) ≠ 0 by decide)
      have y1 := Int.emod_lt_of_pos (z % p) (show (0 : Int) < 10007 by decide)
      refine bits_ok (w0 z).1 (Int.lt_trans (w0 z).2 (by decide)) (by omega) ?_
      have : z % p % 10007 + 83 * (cnt + 1) < 2 ^ 100 := by omega
      exact Int.lt_trans this (by decide)
    (repeat (first | exists run1 | refine pr_cell h0' rfl ?_ | refine pr_mod hn ?_ | refine pr_subl hp1 ?_ | refine pr_mod (by decide) ?_ | refine pr_mod hp2 ?_ | refine pr_mul g1 ?_ | refine pr_mul g2 ?_ | refine pr_pow g3 ?_ | refine pr_mul g4 ?_ | refine pr_mul (g5 _) ?_ | refine pr_div ⟨by decide, by decide⟩ ?_))
    exact fin _ _ (Nxt.set h0 ⟨own, seed, cnt + 1, set_get_self h0, h1, h2, h3, h4, c1, by omega⟩)
def P_pot (m : FS) : Prop := ∀ (st : Store) (ns : List Int) (k : Nat) (Q : D → Store → Prop), k < 1000 → (∀ own seed : Int, 0 ≤ own → own < 2 ^ 1100 → 0 ≤ seed → seed < 2 ^ 62 → Q (.cell st.length) (st ++ [[own, seed, 0]])) → Cl m [.scr ns, .int k] st Q
theorem pot_ok {T : Tab} : P_pot (den T N__law_pot 2 c__law_pot) := by
  intro st ns j Q hj k
  have cell : ∃ z : Int, Ee T (.ife (.cmp .Lt (.var 1) (.blt "len" (.cons (.var 0) .nil))) (.sub (.var 0) (.var 1)) (.bin .Add (.bin .Mult (.int 43) (.var 1)) (.int 29))) [some (.scr ns), some (.int j), none, none] st fun d s => d = .int z ∧ s = st := by
    by_cases h : (j : Int) < ns.length
    · have hl : j < ns.length := by omega
      refine ⟨ns[j], ?_⟩
      (repeat (exists run1))
      refine ⟨fun _ => ?_, fun hk => absurd h (of_decide_eq_false hk)⟩
      (repeat (exists run1))
      exact ⟨.int ns[j], by show (atI ns j).map D.int = _; rw [atI_nat, List.getElem?_eq_getElem hl]; rfl, rfl, rfl⟩
    · refine ⟨43 * j + 29, ?_⟩
      (repeat (exists run1))
      refine ⟨fun hk => absurd (of_decide_eq_true hk) h, fun _ => ?_⟩
      (repeat (first | exists run1 | refine pr_mul (bits_ok (by decide) (by decide) (Int.natCast_nonneg _) (Int.lt_trans (show (j : Int) < 1000 by omega) (by decide))) ?_))
      exact ⟨rfl, rfl⟩
  obtain ⟨z, d, s, hz, rfl, rfl⟩ := cell
  refine Cl.den rfl (i__law_pot _ _) ?_
  unfold c__law_pot
  refine Ex.seq (Ex.set ⟨_, _, hz, ?_⟩)
  have p60 : (10 : Int) ^ (60 : Int).toNat = 10 ^ 60 := rfl
  have gp1 : (0 : Int) ≤ 60 ∧ (60 : Int) ≤ 100 ∧ (10 : Int).natAbs.log2 ≤ 1000 := ⟨by decide, by decide, by decide⟩
  have gp2 : (0 : Int) ≤ 5 ∧ (5 : Int) ≤ 100 ∧ ((10 : Int) ^ (60 : Int).toNat).natAbs.log2 ≤ 1000 := ⟨by decide, by decide, by decide +kernel⟩
  have gp3 : (0 : Int) ≤ 18 ∧ (18 : Int) ≤ 100 ∧ (10 : Int).natAbs.log2 ≤ 1000 := ⟨by decide, by decide, by decide⟩
  have mp : (0 : Int) < ((10 : Int) ^ (60 : Int).toNat) ^ (5 : Int).toNat := by decide +kernel
  have mq : ((10 : Int) ^ (60 : Int).toNat) ^ (5 : Int).toNat < 2 ^ 1100 := by decide +kernel
  have o0 : ∀ y : Int, 0 ≤ y % (((10 : Int) ^ (60 : Int).toNat) ^ (5 : Int).toNat) ∧ y % (((10 : Int) ^ (60 : Int).toNat) ^ (5 : Int).toNat) < 2 ^ 1100 := fun y => ⟨Int.emod_nonneg y (Int.ne_of_gt mp), Int.lt_trans (Int.emod_lt_of_pos y mp) mq⟩
  generalize hM : ((10 : Int) ^ (60 : Int).toNat) ^ (5 : Int).toNat = M at mp o0
  have one : ∀ b : Bool, (0 : Int) ≤ (if b then 1 else 0) ∧ (if b then (1 : Int) else 0) ≤ 1 := fun b => by cases b <;> decide
  have gm : ∀ (y : Int) (b : Bool), bitsOk (y % M) (if b then 1 else 0) = true := fun y b => bits_ok (o0 y).1 (Int.lt_trans (o0 y).2 (by decide)) (one b).1 (Int.lt_of_le_of_lt (one b).2 (by decide))
  have gs : bitsOk (z % 2305843009213693951) 69389 = true := bits_ok (Int.emod_nonneg z (by decide)) (Int.lt_trans (Int.emod_lt_of_pos z (by decide)) (by decide)) (by decide) (by decide)
  have gj : bitsOk 7561 (j : Int) = true := bits_ok (by decide) (by decide) (Int.natCast_nonneg _) (Int.lt_trans (show (j : Int) < 1000 by omega) (by decide))
  have gj2 : bitsOk (7561 * (j : Int)) (j : Int) = true := bits_ok (by omega) (Int.lt_trans (show 7561 * (j : Int) < 10000000 by omega) (by decide)) (Int.natCast_nonneg _) (Int.lt_trans (show (j : Int) < 1000 by omega) (by decide))
  (repeat (first | exists run1 | refine pr_pow gp1 ?_ | refine pr_pow gp2 ?_ | refine pr_pow gp3 ?_ | (rw [hM]; refine pr_mod mp ?_) | refine pr_mod (by decide) ?_ | refine pr_mul (gm _ _) ?_ | refine pr_mul gs ?_ | refine pr_mul gj ?_ | refine pr_mul gj2 ?_ | refine Ex.retCell ?_))
  refine Pr.of rfl (k _ _ ?_ ?_ ?_ ?_)
  · exact Int.mul_nonneg (o0 _).1 (one _).1
  · refine Int.lt_of_le_of_lt (Int.mul_le_mul_of_nonneg_left (one _).2 (o0 _).1) ?_
    rw [Int.mul_one]; exact (o0 _).2
  · exact Int.emod_nonneg _ (by decide)
  · exact Int.lt_trans (Int.emod_lt_of_pos _ (by decide)) (by decide)
end Q

set_option Elab.async false
set_option linter.all false
set_option maxRecDepth 100000
set_option maxHeartbeats 1000000
namespace Q
open PySem PySem.Spec PyProof.Rows L2
local macro_rules
  | `(tactic| exists run1) => `(tactic| (first
      | with_reducible refine Ex.seq ?_ | with_reducible refine Ex.set ?_ | with_reducible refine Ex.ret ?_ | with_reducible refine Ex.exp ?_ | with_reducible refine Ex.setOwn ?_ | with_reducible refine Ex.unpack ?_ | with_reducible refine Ex.par ?_ | with_reducible refine Ex.put ?_ | with_reducible refine Ex.app ?_ | with_reducible refine Ex.ext ?_ | with_reducible refine Ex.iff ?_ | with_reducible refine Ex.skip ?_ | with_reducible refine Ex.retN ?_ | with_reducible refine Ex.cont ?_ | with_reducible refine Ex.puts ?_ | with_reducible refine Ex.setA ?_ | with_reducible refine Ex.loop ?_
      | (with_reducible refine Ee.isv ?_; refine Ee.var rfl ?_)
      | with_reducible refine Ee.int ?_ | with_reducible refine Ee.bl ?_ | with_reducible refine Ee.str ?_ | with_reducible refine Ee.non ?_ | with_reducible refine Ee.tup ?_ | with_reducible refine Ee.lst ?_ | with_reducible refine Ee.bin ?_ | with_reducible refine Ee.neg ?_ | with_reducible refine Ee.cmp ?_ | with_reducible refine Ee.chain ?_ | with_reducible refine Ee.and ?_ | with_reducible refine Ee.or ?_ | with_reducible refine Ee.not ?_ | with_reducible refine Ee.ife ?_ | with_reducible refine Ee.sub ?_ | with_reducible refine Ee.slice ?_ | with_reducible refine Ee.rev ?_ | with_reducible refine Ee.sortset ?_ | with_reducible refine Ee.isi ?_ | with_reducible refine Ee.blt ?_ | with_reducible refine Ee.dct ?_ | with_reducible refine Ee.dnewT ?_ | with_reducible refine Ee.dnewK ?_
      | with_reducible refine El.cons ?_ | with_reducible refine El.nil ?_ | with_reducible refine Ep.nil ?_ | with_reducible refine Ep.val ?_ | with_reducible refine Ep.own ?_ | with_reducible refine Eo.no ?_ | with_reducible refine Eo.yes ?_ | with_reducible refine Eb.no ?_ | with_reducible refine Eb.yes ?_
      | with_reducible refine Ei.exv ?_ | with_reducible refine Ei.ex rfl ?_ | with_reducible refine Ei.rng1 ?_ | with_reducible refine Ei.rng2 ?_ | with_reducible refine Ei.enum ?_ | with_reducible refine Ei.zip ?_
      | with_reducible refine Aft.nx ?_ | with_reducible refine Aft.rt ?_ | with_reducible refine Aft.ct ?_ | with_reducible refine Trn.nx ?_ | with_reducible refine Trn.rt ?_ | with_reducible refine Trn.ct ?_ | with_reducible refine Fin.rt ?_ | with_reducible refine Fin.nx ?_
      | with_reducible refine Ts.mk ?_ | with_reducible refine Pt.mk ?_ | with_reducible refine exb ?_ | with_reducible refine exi ?_ | with_reducible refine exii ?_
      | with_reducible refine pr_add ?_ | with_reducible refine pr_sub ?_ | with_reducible refine pr_gt ?_ | with_reducible refine pr_le ?_ | with_reducible refine pr_ge ?_ | with_reducible refine pr_lt ?_ | with_reducible refine pr_lts ?_ | with_reducible refine pr_eqi ?_ | with_reducible refine pr_nei ?_ | with_reducible refine pr_eqs ?_ | with_reducible refine pr_nes ?_ | with_reducible refine pr_eqb ?_ | with_reducible refine pr_in ?_ | with_reducible refine pr_nin ?_
      | with_reducible refine pr_len_l ?_ | with_reducible refine pr_len_t ?_ | with_reducible refine pr_len_r ?_ | with_reducible refine pr_len_k ?_ | with_reducible refine pr_abs ?_ | with_reducible refine pr_max ?_ | with_reducible refine pr_min ?_ | with_reducible refine pr_int ?_ | with_reducible refine pr_intb ?_ | with_reducible refine pr_tup_l ?_ | with_reducible refine pr_list_l ?_ | with_reducible refine pr_list_t ?_ | with_reducible refine pr_sorted ?_ | with_reducible refine pr_repr ?_
      | with_reducible refine pr_items_l ?_ | with_reducible refine pr_items_t ?_ | with_reducible refine pr_keys_l ?_ | with_reducible refine pr_keys_t ?_ | with_reducible refine pr_keys_k ?_ | with_reducible refine pr_keys_kt ?_ | with_reducible refine pr_sl_l ?_ | with_reducible refine pr_sl_t ?_ | with_reducible refine pr_rev ?_ | with_reducible refine pr_bind1 ?_ | with_reducible refine pr_binds1 ?_
      | (with_reducible refine pr_cell (by assumption) ?_ ?_; exact rfl)
      | rw [sF_vals rfl]))
/-! ### texts in order -/
def SLt (x y : Str) : Prop := x.cps.toList < y.cps.toList
instance (x y : Str) : Decidable (SLt x y) := inferInstanceAs (Decidable (x.cps.toList < y.cps.toList))
theorem str_ext {x y : Str} (h : x.cps.toList = y.cps.toList) : x = y := PySem.W.str_of_cps h
theorem SLt.irrefl (x : Str) : ¬ SLt x x := List.lt_irrefl _
theorem SLt.trans {x y z : Str} (h : SLt x y) (k : SLt y z) : SLt x z := List.lt_trans h k
theorem SLt.ne {x y : Str} (h : SLt x y) : x ≠ y := fun e => SLt.irrefl y (e ▸ h)
theorem SLt.asymm {x y : Str} (h : SLt x y) : ¬ SLt y x := fun k => SLt.irrefl x (h.trans k)
theorem SLt.tri (x y : Str) : SLt x y ∨ x = y ∨ SLt y x := by
  by_cases h : SLt x y
  · exact .inl h
  · by_cases k : SLt y x
    · exact .inr (.inr k)
    · exact .inr (.inl (str_ext (List.le_antisymm (List.not_lt.mp k) (List.not_lt.mp h))))
theorem dataLt_str (x y : Str) : PySem.W.dataLt (.str x) (.str y) = decide (SLt x y) := by
  have h := congrFun (congrFun (PySem.W.dataLe_str (β := Str) (k := id)) y) x
  have h2 : (!PySem.W.dataLt (.str x) (.str y)) = decide (y.cps.toList ≤ x.cps.toList) := h
  cases e : PySem.W.dataLt (.str x) (.str y) with
  | true =>
    rw [e] at h2
    have : ¬ (y.cps.toList ≤ x.cps.toList) := of_decide_eq_false h2.symm
    exact (decide_eq_true (List.not_le.mp this)).symm
  | false =>
    rw [e] at h2
    have : y.cps.toList ≤ x.cps.toList := of_decide_eq_true h2.symm
    exact (decide_eq_false (List.not_lt.mpr this)).symm
theorem strs_keys : ∀ (ss : List Str), keysOf (ss.map D.str) = some (ss.map Sum.inr)
  | [] => rfl
  | s :: ss => by rw [List.map_cons, keysOf, strs_keys ss]; rfl
theorem ints_keys : ∀ (ss : List Int), keysOf (ss.map D.int) = some (ss.map Sum.inl)
  | [] => rfl
  | s :: ss => by rw [List.map_cons, keysOf, ints_keys ss]; rfl
/-- sorted(set(texts)) -/
theorem sortset_strs {ss : List Str} (h : ss.length < 64) : ∃ ys : List Str, sortSetD (.lst (ss.map D.str)) = some (.lst (ys.map D.str)) ∧ (∀ s, s ∈ ys ↔ s ∈ ss) ∧ ys.Pairwise SLt := by
  have al : alikeOk ((ss.map Sum.inr).map encK) = true := by
    unfold alikeOk
    rw [List.all_eq_true]
    intro p hp
    rw [List.all_eq_true]
    intro q hq
    rw [List.map_map] at hp hq
    obtain ⟨a, _, rfl⟩ := List.mem_map.mp hp
    obtain ⟨b, _, rfl⟩ := List.mem_map.mp hq
    rfl
  have all : ∀ k ∈ sortU encK (ss.map Sum.inr), ∃ s, k = Sum.inr s := fun k hk => by
    rw [mem_sortU] at hk
    obtain ⟨s, _, rfl⟩ := List.mem_map.mp hk
    exact ⟨s, rfl⟩
  have conv : ∀ l : List Key, (∀ k ∈ l, ∃ s, k = Sum.inr s) → ∃ ys : List Str, l = ys.map Sum.inr := by
    intro l
    induction l with
    | nil => intro _; exact ⟨[], rfl⟩
    | cons k l ih =>
      intro hl
      obtain ⟨s, rfl⟩ := hl k (List.mem_cons_self ..)
      obtain ⟨ys, rfl⟩ := ih fun k hk => hl k (List.mem_cons_of_mem _ hk)
      exact ⟨s :: ys, rfl⟩
  obtain ⟨ys, hy⟩ := conv _ all
  refine ⟨ys, ?_, fun s => ?_, ?_⟩
  · unfold sortSetD
    dsimp only
    rw [if_pos (by rw [List.length_map]; exact h), strs_keys]
    dsimp only
    rw [if_pos al, hy, List.map_map]
    rfl
  · have := mem_sortU (enc := encK) (k := (Sum.inr s : Key)) (ks := ss.map Sum.inr)
    rw [hy] at this
    simpa using this
  · have := sortU_sorted (enc := encK) encK_inj (ks := ss.map Sum.inr)
    rw [hy, List.pairwise_map] at this
    refine this.imp fun {a b} h => ?_
    have h : PySem.W.dataLt (.str a) (.str b) = true := h
    rw [dataLt_str] at h
    exact of_decide_eq_true h
theorem pw_nodup {ys : List Str} (h : ys.Pairwise SLt) : ys.Nodup := h.imp fun h => h.ne
/-! ### links -/
abbrev Lk := Str × Str × Int × Int
def lkD (l : Lk) : D := .tup [.str l.1, .str l.2.1, .int l.2.2.1, .int l.2.2.2]
def lkK (l : Lk) : List Key := [.inr l.1, .inr l.2.1, .inl l.2.2.1, .inl l.2.2.2]
theorem lkK_D (l : Lk) : tupD (lkK l) = lkD l := rfl
def PLt (a b : Lk) : Prop := SLt a.1 b.1 ∨ (a.1 = b.1 ∧ SLt a.2.1 b.2.1)
theorem lk_tkeys : ∀ (ls : List Lk), tkeysOf (ls.map lkD) = some (ls.map lkK)
  | [] => rfl
  | l :: ls => by
    rw [List.map_cons, lkD, tkeysOf, lk_tkeys ls]
    rfl
theorem dataLt_lk {a b : Lk} (h : PySem.W.dataLt (encT (lkK a)) (encT (lkK b)) = true) : PLt a b ∨ (a.1 = b.1 ∧ a.2.1 = b.2.1) := by
  have e : PySem.W.dataLt (encT (lkK a)) (encT (lkK b)) = PyProof.Rows.lexLt itemOrd (PySem.W.keyToksAll [.str a.1, .str a.2.1, .int a.2.2.1, .int a.2.2.2]) (PySem.W.keyToksAll [.str b.1, .str b.2.1, .int b.2.2.1, .int b.2.2.2]) := by
    unfold PySem.W.dataLt encT
    rfl
  rw [e, PySem.W.dataLt_cons rfl, PySem.W.dataLt_cons rfl] at h
  by_cases h1 : a.1 = b.1
  · rw [if_pos (by simp [PyData.eqv, h1])] at h
    by_cases h2 : a.2.1 = b.2.1
    · exact .inr ⟨h1, h2⟩
    · rw [if_neg (by simp [PyData.eqv, h2]), dataLt_str] at h
      exact .inl (.inr ⟨h1, of_decide_eq_true h⟩)
  · rw [if_neg (by simp [PyData.eqv, h1]), dataLt_str] at h
    exact .inl (.inl (of_decide_eq_true h))
/-- sorted(set(links)), no two for one pair -/
theorem sortset_lks {ls : List Lk} (h : ls.length < 64) (hp : ∀ a ∈ ls, ∀ b ∈ ls, a.1 = b.1 → a.2.1 = b.2.1 → a = b) : ∃ ys : List Lk, sortSetD (.lst (ls.map lkD)) = some (.lst (ys.map lkD)) ∧ (∀ s, s ∈ ys ↔ s ∈ ls) ∧ ys.Pairwise PLt := by
  have inj : ∀ {a b : Lk}, lkK a = lkK b → a = b := fun {a b} e => by
    obtain ⟨a1, a2, a3, a4⟩ := a
    obtain ⟨b1, b2, b3, b4⟩ := b
    simp only [lkK, List.cons.injEq, Sum.inr.injEq, Sum.inl.injEq, and_true] at e
    obtain ⟨rfl, rfl, rfl, rfl⟩ := e
    rfl
  have al : alikeOk ((ls.map lkK).map encT) = true := by
    unfold alikeOk
    rw [List.all_eq_true]
    intro p hp
    rw [List.all_eq_true]
    intro q hq
    rw [List.map_map] at hp hq
    obtain ⟨a, _, rfl⟩ := List.mem_map.mp hp
    obtain ⟨b, _, rfl⟩ := List.mem_map.mp hq
    rfl
  have ne : ((ls.map lkK).all fun k => !k.isEmpty) = true := by
    rw [List.all_eq_true]
    intro k hk
    obtain ⟨a, _, rfl⟩ := List.mem_map.mp hk
    rfl
  have conv : ∀ l : List (List Key), (∀ k ∈ l, ∃ s ∈ ls, k = lkK s) → ∃ ys : List Lk, l = ys.map lkK := by
    intro l
    induction l with
    | nil => intro _; exact ⟨[], rfl⟩
    | cons k l ih =>
      intro hl
      obtain ⟨s, _, rfl⟩ := hl k (List.mem_cons_self ..)
      obtain ⟨ys, rfl⟩ := ih fun k hk => hl k (List.mem_cons_of_mem _ hk)
      exact ⟨s :: ys, rfl⟩
  obtain ⟨ys, hy⟩ := conv (sortU encT (ls.map lkK)) fun k hk => by
    rw [mem_sortU] at hk
    obtain ⟨s, hs, rfl⟩ := List.mem_map.mp hk
    exact ⟨s, hs, rfl⟩
  have mem : ∀ s, s ∈ ys ↔ s ∈ ls := fun s => by
    have := mem_sortU (enc := encT) (k := lkK s) (ks := ls.map lkK)
    rw [hy] at this
    constructor
    · intro hs
      obtain ⟨t, ht, e⟩ := List.mem_map.mp (this.mp (List.mem_map.mpr ⟨s, hs, rfl⟩))
      rw [← inj e]; exact ht
    · intro hs
      obtain ⟨t, ht, e⟩ := List.mem_map.mp (this.mpr (List.mem_map.mpr ⟨s, hs, rfl⟩))
      rw [← inj e]; exact ht
  refine ⟨ys, ?_, mem, ?_⟩
  · cases ls with
    | nil =>
      have : ys = [] := List.eq_nil_iff_forall_not_mem.mpr fun s hs => absurd ((mem s).mp hs) List.not_mem_nil
      subst this
      have e0 : sortU encK ([] : List Key) = [] := by simp [sortU, uniq]
      show some (D.lst ((sortU encK []).map keyD)) = _
      rw [e0]
      rfl
    | cons l0 ls0 =>
      have nk : keysOf ((l0 :: ls0).map lkD) = none := rfl
      unfold sortSetD
      dsimp only
      rw [if_pos (by rw [List.length_map]; exact h), nk]
      dsimp only
      rw [lk_tkeys]
      dsimp only
      rw [if_pos (by rw [al, ne]; rfl), hy, List.map_map]
      rfl
  · have := sortU_sorted (enc := encT) encT_inj (ks := ls.map lkK)
    rw [hy, List.pairwise_map] at this
    refine (List.Pairwise.and_mem.mp this).imp fun {a b} h => ?_
    obtain ⟨ha, hb, h⟩ := h
    rcases dataLt_lk h with z | ⟨z1, z2⟩
    · exact z
    · have := hp a ((mem a).mp ha) b ((mem b).mp hb) z1 z2
      subst this
      exfalso
      unfold PySem.W.dataLt at h
      rw [lex_irrefl] at h
      cases h
end Q

set_option Elab.async false
set_option linter.all false
set_option maxRecDepth 100000
set_option maxHeartbeats 1000000
namespace Q
open PySem PySem.Spec PyProof.Rows L2
local macro_rules
  | `(tactic| exists run1) => `(tactic| (first
      | with_reducible refine Ex.seq ?_ | with_reducible refine Ex.set ?_ | with_reducible refine Ex.ret ?_ | with_reducible refine Ex.exp ?_ | with_reducible refine Ex.setOwn ?_ | with_reducible refine Ex.unpack ?_ | with_reducible refine Ex.par ?_ | with_reducible refine Ex.put ?_ | with_reducible refine Ex.app ?_ | with_reducible refine Ex.ext ?_ | with_reducible refine Ex.iff ?_ | with_reducible refine Ex.skip ?_ | with_reducible refine Ex.retN ?_ | with_reducible refine Ex.cont ?_ | with_reducible refine Ex.puts ?_ | with_reducible refine Ex.setA ?_ | with_reducible refine Ex.loop ?_
      | (with_reducible refine Ee.isv ?_; refine Ee.var rfl ?_)
      | with_reducible refine Ee.int ?_ | with_reducible refine Ee.bl ?_ | with_reducible refine Ee.str ?_ | with_reducible refine Ee.non ?_ | with_reducible refine Ee.tup ?_ | with_reducible refine Ee.lst ?_ | with_reducible refine Ee.bin ?_ | with_reducible refine Ee.neg ?_ | with_reducible refine Ee.cmp ?_ | with_reducible refine Ee.chain ?_ | with_reducible refine Ee.and ?_ | with_reducible refine Ee.or ?_ | with_reducible refine Ee.not ?_ | with_reducible refine Ee.ife ?_ | with_reducible refine Ee.sub ?_ | with_reducible refine Ee.slice ?_ | with_reducible refine Ee.rev ?_ | with_reducible refine Ee.sortset ?_ | with_reducible refine Ee.isi ?_ | with_reducible refine Ee.blt ?_ | with_reducible refine Ee.dct ?_ | with_reducible refine Ee.dnewT ?_ | with_reducible refine Ee.dnewK ?_
      | with_reducible refine El.cons ?_ | with_reducible refine El.nil ?_ | with_reducible refine Ep.nil ?_ | with_reducible refine Ep.val ?_ | with_reducible refine Ep.own ?_ | with_reducible refine Eo.no ?_ | with_reducible refine Eo.yes ?_ | with_reducible refine Eb.no ?_ | with_reducible refine Eb.yes ?_
      | with_reducible refine Ei.exv ?_ | with_reducible refine Ei.ex rfl ?_ | with_reducible refine Ei.rng1 ?_ | with_reducible refine Ei.rng2 ?_ | with_reducible refine Ei.enum ?_ | with_reducible refine Ei.zip ?_
      | with_reducible refine Aft.nx ?_ | with_reducible refine Aft.rt ?_ | with_reducible refine Aft.ct ?_ | with_reducible refine Trn.nx ?_ | with_reducible refine Trn.rt ?_ | with_reducible refine Trn.ct ?_ | with_reducible refine Fin.rt ?_ | with_reducible refine Fin.nx ?_
      | with_reducible refine Ts.mk ?_ | with_reducible refine Pt.mk ?_ | with_reducible refine exb ?_ | with_reducible refine exi ?_ | with_reducible refine exii ?_
      | with_reducible refine pr_add ?_ | with_reducible refine pr_sub ?_ | with_reducible refine pr_gt ?_ | with_reducible refine pr_le ?_ | with_reducible refine pr_ge ?_ | with_reducible refine pr_lt ?_ | with_reducible refine pr_lts ?_ | with_reducible refine pr_eqi ?_ | with_reducible refine pr_nei ?_ | with_reducible refine pr_eqs ?_ | with_reducible refine pr_nes ?_ | with_reducible refine pr_eqb ?_ | with_reducible refine pr_in ?_ | with_reducible refine pr_nin ?_
      | with_reducible refine pr_len_l ?_ | with_reducible refine pr_len_t ?_ | with_reducible refine pr_len_r ?_ | with_reducible refine pr_len_k ?_ | with_reducible refine pr_abs ?_ | with_reducible refine pr_max ?_ | with_reducible refine pr_min ?_ | with_reducible refine pr_int ?_ | with_reducible refine pr_intb ?_ | with_reducible refine pr_tup_l ?_ | with_reducible refine pr_list_l ?_ | with_reducible refine pr_list_t ?_ | with_reducible refine pr_sorted ?_ | with_reducible refine pr_repr ?_
      | with_reducible refine pr_items_l ?_ | with_reducible refine pr_items_t ?_ | with_reducible refine pr_keys_l ?_ | with_reducible refine pr_keys_t ?_ | with_reducible refine pr_keys_k ?_ | with_reducible refine pr_keys_kt ?_ | with_reducible refine pr_sl_l ?_ | with_reducible refine pr_sl_t ?_ | with_reducible refine pr_rev ?_ | with_reducible refine pr_bind1 ?_ | with_reducible refine pr_binds1 ?_
      | (with_reducible refine pr_cell (by assumption) ?_ ?_; exact rfl)
      | rw [sF_vals rfl]))
structure P_of (m : FS) : Prop where
  lst : ∀ (st : Store) (c b : Nat) (Q : D → Store → Prop) (xs : List D), PotAt st c b → b < LIM → xs ≠ [] → xs.length < 2 ^ 50 → (∀ x ∈ xs, ∀ st', Nxt c (b + 1) st st' → Q x st') → Cl m [.cell c, .lst xs] st Q
  tup : ∀ (st : Store) (c b : Nat) (Q : D → Store → Prop) (xs : List D), PotAt st c b → b < LIM → xs ≠ [] → xs.length < 2 ^ 50 → (∀ x ∈ xs, ∀ st', Nxt c (b + 1) st st' → Q x st') → Cl m [.cell c, .tup xs] st Q
  str : ∀ (st : Store) (c b : Nat) (Q : D → Store → Prop) (s : Str), PotAt st c b → b < LIM → s.length ≠ 0 → s.length ≤ sizeLine → (∀ ch ∈ s.cps.toList, ∀ st', Nxt c (b + 1) st st' → Q (.str ⟨#[ch]⟩) st') → Cl m [.cell c, .str s] st Q
theorem of_ok {T : Tab} (hT : Has T "_law_take" P_take) : P_of (den T N__law_of 2 c__law_of) := by
  constructor
  · intro st c b Q xs hp hb h0 hl k
    refine Cl.den rfl (i__law_of _ _) ?_
    unfold c__law_of
    (repeat (exists run1))
    refine Ee.callH hT fun m hm => ?_
    (repeat (exists run1))
    have h1 : 0 < xs.length := List.length_pos_iff.mpr h0
    refine hm _ _ b _ _ hp (by omega) (Int.lt_trans (show (xs.length : Int) < 2 ^ 50 by omega) (by decide)) hb fun r st' hr hn => ?_
    have hr2 : r < xs.length := by omega
    refine pr_subl (d := xs[r]) (by rw [atI_nat, List.getElem?_eq_getElem hr2]) ?_
    exact k _ (List.getElem_mem hr2) st' hn
  · intro st c b Q xs hp hb h0 hl k
    refine Cl.den rfl (i__law_of _ _) ?_
    unfold c__law_of
    (repeat (exists run1))
    refine Ee.callH hT fun m hm => ?_
    (repeat (exists run1))
    have h1 : 0 < xs.length := List.length_pos_iff.mpr h0
    refine hm _ _ b _ _ hp (by omega) (Int.lt_trans (show (xs.length : Int) < 2 ^ 50 by omega) (by decide)) hb fun r st' hr hn => ?_
    have hr2 : r < xs.length := by omega
    refine pr_subt (d := xs[r]) (by rw [atI_nat, List.getElem?_eq_getElem hr2]) ?_
    exact k _ (List.getElem_mem hr2) st' hn
  · intro st c b Q s hp hb h0 hl k
    refine Cl.den rfl (i__law_of _ _) ?_
    unfold c__law_of
    (repeat (exists run1))
    refine Ee.callH hT fun m hm => ?_
    (repeat (first | exists run1 | refine pr_len_s hl ?_))
    have hl' : s.length < 2 ^ 50 := by rw [sizeLine_eq] at hl; omega
    refine hm _ _ b _ _ hp (by omega) (Int.lt_trans (show (s.length : Int) < 2 ^ 50 by omega) (by decide)) hb fun r st' hr hn => ?_
    have el : s.cps.toList.length = s.length := by simp [Str.length]
    have hr2 : r < s.cps.toList.length := by omega
    refine ⟨.str ⟨#[s.cps.toList[r]]⟩, ?_, k _ (List.getElem_mem hr2) st' hn⟩
    show (if s.length ≤ sizeLine then (atI s.cps.toList r).map fun c => D.str ⟨#[c]⟩ else none) = _
    rw [if_pos hl, atI_nat, List.getElem?_eq_getElem hr2]
    rfl
theorem cut_from {xs : List D} {n : Nat} : cutD xs (some (n : Int)) none = xs.drop n := by
  unfold cutD
  rw [HT.sIx_nat, HT.sIx_none]
  by_cases h : n ≤ xs.length
  · rw [Nat.min_eq_left h, List.take_of_length_le]
    rw [List.length_drop]; exact Nat.le_refl _
  · rw [Nat.min_eq_right (by omega), List.drop_of_length_le (Nat.le_refl _), List.drop_of_length_le (by omega), List.take_nil]
theorem cut_to {xs : List D} {n : Nat} : cutD xs none (some (n : Int)) = xs.take n := by
  unfold cutD
  rw [HT.sIx_nat, HT.sIx_none, List.drop_zero, Nat.sub_zero]
  by_cases h : n ≤ xs.length
  · rw [Nat.min_eq_left h]
  · rw [Nat.min_eq_right (by omega), List.take_of_length_le (Nat.le_refl _), List.take_of_length_le (by omega)]
def P_turned (m : FS) : Prop := ∀ (st : Store) (c b : Nat) (Q : D → Store → Prop) (xs : List D), PotAt st c b → b + 1 < LIM → xs ≠ [] → xs.length ≤ 1000 → (∀ ys st', ys.Perm xs → Nxt c (b + 2) st st' → Q (.lst ys) st') → Cl m [.cell c, .lst xs] st Q
theorem turned_ok {T : Tab} (hT : Has T "_law_take" P_take) : P_turned (den T N__law_turned 2 c__law_turned) := by
  intro st c b Q xs hp hb h0 hl k
  refine Cl.den rfl (i__law_turned _ _) ?_
  unfold c__law_turned
  (repeat (exists run1))
  refine Ee.callH hT fun m hm => ?_
  (repeat (exists run1))
  have h1 : 0 < xs.length := List.length_pos_iff.mpr h0
  refine hm _ _ b _ _ hp (by omega) (Int.lt_trans (show (xs.length : Int) < 2 ^ 50 by omega) (by decide)) (by omega) fun r s1 hr hn => ?_
  have pm : (xs.drop r ++ xs.take r).Perm xs := by
    refine (List.perm_append_comm).trans ?_
    rw [List.take_append_drop]
  have len : (xs.drop r).length + (xs.take r).length ≤ sizeLine := by
    have := pm.length_eq
    rw [List.length_append] at this
    rw [this, sizeLine_eq]; omega
  (repeat (first | exists run1 | (rw [cut_from, cut_to]; refine pr_addl len ?_)))
  refine Ee.callH hT fun m' hm' => ?_
  (repeat (exists run1))
  refine hm' _ _ (b + 1) _ _ hn.pot (by decide) (by decide) hb fun r2 s2 hr2 hn2 => ?_
  (repeat (exists run1))
  refine ⟨fun _ => ?_, fun _ => ?_⟩
  · (repeat (exists run1))
    exact k _ _ ((List.reverse_perm _).trans pm) (hn.trans hn2)
  · (repeat (exists run1))
    exact k _ _ pm (hn.trans hn2)
def P_far (m : FS) : Prop := ∀ (st : Store) (c b : Nat) (Q : D → Store → Prop), PotAt st c b → b + 3 < LIM → (∀ (z : Int) st', 1 ≤ z → z ≤ 90 → Nxt c (b + 3) st st' → Q (.int z) st') → Cl m [.cell c] st Q
theorem far_ok {T : Tab} (hT : Has T "_law_take" P_take) (hO : Has T "_law_of" P_of) : P_far (den T N__law_far 1 c__law_far) := by
  intro st c b Q hp hb k
  refine Cl.den rfl (i__law_far _) ?_
  unfold c__law_far
  (repeat (exists run1))
  refine Ee.callH hO fun m hm => ?_
  (repeat (exists run1))
  refine Ee.callH hT fun m1 hm1 => ?_
  (repeat (exists run1))
  refine hm1 _ _ b _ _ hp (by decide) (by decide) (by omega) fun r1 s1 hr1 hn1 => ?_
  (repeat (exists run1))
  refine Ee.callH hT fun m2 hm2 => ?_
  (repeat (exists run1))
  refine hm2 _ _ (b + 1) _ _ hn1.pot (by decide) (by decide) (by omega) fun r2 s2 hr2 hn2 => ?_
  (repeat (exists run1))
  refine hm.lst _ _ (b + 2) _ _ hn2.pot (by omega) (by simp) (by simp) fun x hx s3 hn3 => ?_
  (repeat (exists run1))
  have hN := (hn1.trans hn2).trans hn3
  simp only [List.mem_cons, List.not_mem_nil, or_false] at hx
  rcases hx with rfl | rfl | rfl | rfl | rfl | rfl | rfl | rfl | rfl | rfl | rfl | rfl
  all_goals first | exact k _ _ (by decide) (by decide) hN | exact k _ _ (by omega) (by omega) hN
/-! ### names -/
def Letter (c : Nat) : Prop := 97 ≤ c ∧ c ≤ 122
structure IsName (s : Str) : Prop where
  one : 1 ≤ s.length
  eight : s.length ≤ 8
  lets : ∀ c ∈ s.cps.toList, Letter c
theorem str_len (s : Str) : s.length = s.cps.toList.length := by simp [Str.length]
theorem app_cps (x y : Str) : (x ++ y).cps.toList = x.cps.toList ++ y.cps.toList := by
  show (x.cps ++ y.cps).toList = _
  rw [Array.toList_append]
theorem app_len (x y : Str) : (x ++ y).length = x.length + y.length := by rw [str_len, app_cps, List.length_append, ← str_len, ← str_len]
def alpha : Str := "abcdefghijklmnopqrstuvwxyz"
theorem alpha_cps : alpha.cps.toList = (List.range 26).map (· + 97) := by decide +kernel
theorem alpha_let {c : Nat} (h : c ∈ alpha.cps.toList) : Letter c := by
  rw [alpha_cps] at h
  obtain ⟨i, hi, rfl⟩ := List.mem_map.mp h
  rw [List.mem_range] at hi
  exact ⟨by omega, by omega⟩
theorem alpha_at {i : Nat} (h : i < 26) : alpha.cps.toList[i]? = some (i + 97) := by
  rw [alpha_cps, List.getElem?_map, List.getElem?_range h]; rfl
theorem cutS_to {x : Str} {n : Nat} : (cutS x none (some (n : Int))).cps.toList = x.cps.toList.take n := by
  unfold cutS
  rw [HT.sIx_nat, HT.sIx_none, List.drop_zero, Nat.sub_zero]
  simp only [List.toList_toArray]
  by_cases h : n ≤ x.length
  · rw [Nat.min_eq_left h]
  · rw [Nat.min_eq_right (by omega), List.take_of_length_le (by rw [str_len]; exact Nat.le_refl _), List.take_of_length_le (by rw [str_len] at h; omega)]
theorem cutS_from {x : Str} {n : Nat} : (cutS x (some (n : Int)) none).cps.toList = x.cps.toList.drop n := by
  unfold cutS
  rw [HT.sIx_nat, HT.sIx_none]
  simp only [List.toList_toArray]
  rw [str_len]
  by_cases h : n ≤ x.cps.toList.length
  · rw [Nat.min_eq_left h, List.take_of_length_le]
    rw [List.length_drop]; exact Nat.le_refl _
  · rw [Nat.min_eq_right (by omega), List.drop_of_length_le (Nat.le_refl _), List.drop_of_length_le (by omega), List.take_nil]
theorem join_letters : ∀ (ys : List Str), (∀ y ∈ ys, y.length = 1 ∧ ∀ c ∈ y.cps.toList, Letter c) → (Str.join "" ys).length = ys.length ∧ ∀ c ∈ (Str.join "" ys).cps.toList, Letter c
  | [], _ => ⟨rfl, fun c h => absurd h (by simp [Str.join, Str.empty])⟩
  | [y], h => by
    have := h y (List.mem_cons_self ..)
    exact ⟨this.1, this.2⟩
  | y :: z :: r, h => by
    have ih := join_letters (z :: r) fun y hy => h y (List.mem_cons_of_mem _ hy)
    have hy := h y (List.mem_cons_self ..)
    have e : Str.join "" (y :: z :: r) = y ++ "" ++ Str.join "" (z :: r) := rfl
    have e0 : ("" : Str).length = 0 := rfl
    have e1 : ("" : Str).cps.toList = [] := rfl
    refine ⟨by rw [e, app_len, app_len, hy.1, e0, ih.1]; simp only [List.length_cons]; omega, fun c hc => ?_⟩
    rw [e, app_cps, app_cps, e1, List.append_nil, List.mem_append] at hc
    exact hc.elim (hy.2 c) (ih.2 c)
theorem sum_ones {α : Type} : ∀ l : List α, (l.map fun _ => 1).sum = l.length
  | [] => rfl
  | x :: l => by rw [List.map_cons, List.sum_cons, sum_ones l, List.length_cons, Nat.add_comm]
theorem pr_join {s : Str} {ys : List Str} {Q : D → Prop} (hl : (ys.map (·.length)).sum + ys.length * s.length ≤ 16777216) (h : Q (.str (Str.join s ys))) : Pr (methD "join" (.str s) [.lst (ys.map D.str)]) Q := by
  have so : ∀ ys : List Str, strsOf (ys.map D.str) = some ys := by
    intro ys
    induction ys with
    | nil => rfl
    | cons y ys ih => rw [List.map_cons, strsOf, ih]; rfl
  refine ⟨_, ?_, h⟩
  unfold methD
  rw [if_neg (by decide +kernel), if_pos rfl]
  dsimp only
  rw [so]
  show (if _ then _ else _) = _
  rw [if_pos hl]
  show some (D.str (Builtin.Str.glued s ys)) = _
  rw [PySem.StrLaws.glued_eq_join]
def nmk (stem : Str) (spot at_ k : Nat) : Str := cutS stem none (some (spot : Int)) ++ ⟨#[(at_ + 5 * k) % 26 + 97]⟩ ++ cutS stem (some (spot : Int)) none
theorem nmk_cps (stem : Str) (spot at_ k : Nat) : (nmk stem spot at_ k).cps.toList = stem.cps.toList.take spot ++ [(at_ + 5 * k) % 26 + 97] ++ stem.cps.toList.drop spot := by
  unfold nmk
  rw [app_cps, app_cps, cutS_to, cutS_from]
theorem nmk_name {stem : Str} {spot at_ k : Nat} (h1 : stem.length ≤ 7) (h2 : ∀ c ∈ stem.cps.toList, Letter c) : IsName (nmk stem spot at_ k) := by
  have e := nmk_cps stem spot at_ k
  have hl : (nmk stem spot at_ k).length = stem.length + 1 := by
    rw [str_len, e, List.length_append, List.length_append, List.length_take, List.length_drop, str_len]
    simp only [List.length_cons, List.length_nil]
    omega
  refine ⟨by omega, by omega, fun c hc => ?_⟩
  rw [e, List.mem_append, List.mem_append] at hc
  rcases hc with (hc | hc) | hc
  · exact h2 c (List.mem_of_mem_take hc)
  · simp only [List.mem_cons, List.not_mem_nil, or_false] at hc
    subst hc
    exact ⟨by omega, by omega⟩
  · exact h2 c (List.mem_of_mem_drop hc)
theorem nmk_inj {stem : Str} {spot at_ k l : Nat} (hk : k < 8) (hl : l < 8) (e : nmk stem spot at_ k = nmk stem spot at_ l) : k = l := by
  have e2 := congrArg (fun s : Str => s.cps.toList) e
  rw [nmk_cps, nmk_cps, List.append_left_inj, List.append_right_inj, List.cons.injEq] at e2
  omega
def P_names (m : FS) : Prop := ∀ (st : Store) (c b n : Nat) (Q : D → Store → Prop), PotAt st c b → b + 12 < LIM → 1 ≤ n → n ≤ 8 → (∀ (names : List Str) st', names.length = n → (∀ s ∈ names, IsName s) → names.Pairwise SLt → Nxt c (b + 12) st st' → Q (.lst (names.map D.str)) st') → Cl m [.cell c, .int n] st Q
set_option maxHeartbeats 4000000 in
theorem names_ok {T : Tab} (hT : Has T "_law_take" P_take) (hO : Has T "_law_of" P_of) : P_names (den T N__law_names 2 c__law_names) := by
  intro st c b n Q hp hb h1 h8 k
  refine Cl.den rfl (i__law_names _ _) ?_
  unfold c__law_names
  (repeat (exists run1))
  refine Ee.mcall ?_
  (repeat (exists run1))
  refine ⟨rfl, ?_⟩
  (repeat (exists run1))
  refine Ee.comp_inv ?_
  (repeat (exists run1))
  refine Ee.callH hO fun m hm => ?_
  (repeat (exists run1))
  refine hm.lst _ _ b _ _ hp (by omega) (by simp) (by simp) fun x hx s1 hn1 => ?_
  have hx2 : ∃ j : Nat, j ≤ 7 ∧ x = .int j := by
    simp only [List.mem_cons, List.not_mem_nil, or_false] at hx
    rcases hx with rfl | rfl | rfl | rfl | rfl | rfl | rfl | rfl | rfl
    · exact ⟨0, by decide, rfl⟩
    · exact ⟨0, by decide, rfl⟩
    · exact ⟨1, by decide, rfl⟩
    · exact ⟨2, by decide, rfl⟩
    · exact ⟨3, by decide, rfl⟩
    · exact ⟨4, by decide, rfl⟩
    · exact ⟨5, by decide, rfl⟩
    · exact ⟨6, by decide, rfl⟩
    · exact ⟨7, by decide, rfl⟩
  obtain ⟨j, hj, rfl⟩ := hx2
  (repeat (exists run1))
  refine pr_rng ⟨by decide, by decide, by omega, by omega, by rw [sizeLine_eq]; omega⟩ ?_
  refine ⟨fun i acc s => ∃ ys : List Str, acc = ys.map D.str ∧ ys.length = i ∧ (∀ y ∈ ys, y.length = 1 ∧ ∀ c ∈ y.cps.toList, Letter c) ∧ Nxt c (b + 1 + i) st s, ⟨[], rfl, rfl, fun y hy => absurd hy List.not_mem_nil, hn1⟩, ?_, ?_⟩
  · rintro i d acc s hd ⟨ys, rfl, hl, hy, hns⟩
    have hi : i < 7 := by
      have := (List.getElem?_eq_some_iff.mp hd).1
      simp at this
      omega
    unfold Cp
    (repeat (exists run1))
    refine ⟨fun _ => ?_, fun h => by cases h⟩
    refine Ee.callH hO fun m2 hm2 => ?_
    (repeat (exists run1))
    refine hm2.str _ _ (b + 1 + i) _ _ hns.pot (by omega) (by decide +kernel) (by decide +kernel) fun ch hch s2 hn2 => ?_
    refine ⟨ys ++ [⟨#[ch]⟩], by rw [List.map_append]; rfl, by rw [List.length_append, hl]; rfl, fun y hy' => ?_, hns.trans (hn2.mono (by omega))⟩
    rcases List.mem_append.mp hy' with h | h
    · exact hy y h
    · simp only [List.mem_cons, List.not_mem_nil, or_false] at h
      subst h
      exact ⟨rfl, fun c hc => by
        have : c = ch := by simpa using hc
        subst this
        exact alpha_let hch⟩
  · rintro r s ⟨ys, rfl, hl, hy, hns⟩
    have hl7' : ys.length = j := by
      rw [hl, List.length_map, List.length_range]
      omega
    obtain ⟨jl, jc⟩ := join_letters ys hy
    have hsum : (ys.map (·.length)).sum = ys.length := by
      have : ys.map (·.length) = ys.map fun _ => 1 := List.map_congr_left fun y hy' => (hy y hy').1
      rw [this]
      exact sum_ones ys
    refine El.nil ?_
    refine pr_join (by rw [hsum]; show ys.length + ys.length * 0 ≤ _; omega) ?_
    generalize hst : Str.join "" ys = stem at jl jc
    have sl : stem.length ≤ 7 := by omega
    have slz : stem.length ≤ sizeLine := by rw [sizeLine_eq]; omega
    (repeat (exists run1))
    refine Ee.callH hT fun m2 hm2 => ?_
    (repeat (first | exists run1 | refine pr_len_s slz ?_))
    refine hm2 _ _ (b + 1 + 7) _ _ (hns.pot.mono (by omega)) (by omega) (by omega) (by omega) fun spot s2 hspot hn2 => ?_
    (repeat (exists run1))
    refine Ee.callH hT fun m3 hm3 => ?_
    (repeat (exists run1))
    refine hm3 _ _ (b + 1 + 7 + 1) _ _ hn2.pot (by decide) (by decide) (by omega) fun at_ s3 hat hn3 => ?_
    (repeat (exists run1))
    refine ⟨rfl, ?_⟩
    (repeat (exists run1))
    have hN : Nxt c (b + 12) st s3 := (hns.trans hn2).trans (hn3.mono (by omega))
    refine Ee.comp_map (List.range n) (fun i => .int (0 + (i : Int))) (fun _ => true) (fun i => .str (nmk stem spot at_ i)) ?_
    (repeat (exists run1))
    refine pr_rng ⟨by decide, by decide, by omega, by omega, by rw [sizeLine_eq]; omega⟩ ?_
    have en : ((n : Int) - 0).toNat = n := by omega
    rw [en]
    refine ⟨rfl, fun i hi => ?_, ?_⟩
    · rw [List.mem_range] at hi
      unfold Cp
      have hm : bitsOk 5 (0 + (i : Int)) = true := bits_ok (by decide) (by decide) (by omega) (Int.lt_trans (show 0 + (i : Int) < 100 by omega) (by decide))
      have e26 : ((at_ : Int) + 5 * (0 + (i : Int))) % 26 = (((at_ + 5 * i) % 26 : Nat) : Int) := by omega
      have hsub : subD s3 (.str "abcdefghijklmnopqrstuvwxyz") (.int (((at_ : Int) + 5 * (0 + (i : Int))) % 26)) = some (.str ⟨#[(at_ + 5 * i) % 26 + 97]⟩) := by
        rw [e26]
        show (if alpha.length ≤ sizeLine then (atI alpha.cps.toList _).map (fun c => D.str ⟨#[c]⟩) else none) = _
        rw [if_pos (by decide +kernel), atI_nat, alpha_at (Nat.mod_lt _ (by decide))]
        rfl
      have l1 : (cutS stem none (some (spot : Int))).length ≤ 7 := by rw [str_len, cutS_to, List.length_take, ← str_len]; omega
      have l2 : (cutS stem (some (spot : Int)) none).length ≤ 7 := by rw [str_len, cutS_from, List.length_drop, ← str_len]; omega
      (repeat (exists run1))
      refine ⟨fun _ => ?_, fun h => by cases h⟩
      (repeat (first | exists run1 | refine pr_sl_s slz ?_ | refine pr_mul hm ?_ | refine pr_mod (by decide) ?_ | refine Pr.of hsub ?_))
      refine pr_adds (by rw [sizeLine_eq]; show _ + 1 ≤ _; omega) ?_
      (repeat (first | exists run1 | refine pr_sl_s slz ?_))
      refine pr_adds (by rw [app_len, sizeLine_eq]; show _ + 1 + _ ≤ _; omega) ?_
      exact ⟨rfl, rfl⟩
    · have ef : (List.range n).filter (fun _ => true) = List.range n := List.filter_eq_self.mpr fun _ _ => rfl
      rw [ef]
      have em : (List.range n).map (fun i => D.str (nmk stem spot at_ i)) = ((List.range n).map (nmk stem spot at_)).map D.str := by rw [List.map_map]; rfl
      rw [em]
      obtain ⟨ys', hy1, hy2, hy3⟩ := sortset_strs (ss := (List.range n).map (nmk stem spot at_)) (by rw [List.length_map, List.length_range]; omega)
      (repeat (exists run1))
      refine Pr.of hy1 (k ys' s3 ?_ (fun s hs => ?_) hy3 hN)
      · have nd : ((List.range n).map (nmk stem spot at_)).Nodup := by
          unfold List.Nodup
          rw [List.pairwise_map]
          refine (List.Pairwise.and_mem.mp List.nodup_range).imp fun {x y} h => ?_
          obtain ⟨hx, hy, hne⟩ := h
          rw [List.mem_range] at hx hy
          exact fun e => hne (nmk_inj (by omega) (by omega) e)
        have := (List.perm_ext_iff_of_nodup (pw_nodup hy3) nd).mpr fun a => hy2 a
        rw [this.length_eq, List.length_map, List.length_range]
      · obtain ⟨i, _, rfl⟩ := List.mem_map.mp ((hy2 s).mp hs)
        exact nmk_name sl jc
end Q

set_option Elab.async false
set_option linter.all false
set_option maxRecDepth 100000
set_option maxHeartbeats 1000000
namespace Q
open PySem PySem.Spec PyProof.Rows L2
local macro_rules
  | `(tactic| exists run1) => `(tactic| (first
      | with_reducible refine Ex.seq ?_ | with_reducible refine Ex.set ?_ | with_reducible refine Ex.ret ?_ | with_reducible refine Ex.exp ?_ | with_reducible refine Ex.setOwn ?_ | with_reducible refine Ex.unpack ?_ | with_reducible refine Ex.par ?_ | with_reducible refine Ex.put ?_ | with_reducible refine Ex.app ?_ | with_reducible refine Ex.ext ?_ | with_reducible refine Ex.iff ?_ | with_reducible refine Ex.skip ?_ | with_reducible refine Ex.retN ?_ | with_reducible refine Ex.cont ?_ | with_reducible refine Ex.puts ?_ | with_reducible refine Ex.setA ?_ | with_reducible refine Ex.loop ?_
      | (with_reducible refine Ee.isv ?_; refine Ee.var rfl ?_)
      | with_reducible refine Ee.int ?_ | with_reducible refine Ee.bl ?_ | with_reducible refine Ee.str ?_ | with_reducible refine Ee.non ?_ | with_reducible refine Ee.tup ?_ | with_reducible refine Ee.lst ?_ | with_reducible refine Ee.bin ?_ | with_reducible refine Ee.neg ?_ | with_reducible refine Ee.cmp ?_ | with_reducible refine Ee.chain ?_ | with_reducible refine Ee.and ?_ | with_reducible refine Ee.or ?_ | with_reducible refine Ee.not ?_ | with_reducible refine Ee.ife ?_ | with_reducible refine Ee.sub ?_ | with_reducible refine Ee.slice ?_ | with_reducible refine Ee.rev ?_ | with_reducible refine Ee.sortset ?_ | with_reducible refine Ee.isi ?_ | with_reducible refine Ee.blt ?_ | with_reducible refine Ee.dct ?_ | with_reducible refine Ee.dnewT ?_ | with_reducible refine Ee.dnewK ?_
      | with_reducible refine El.cons ?_ | with_reducible refine El.nil ?_ | with_reducible refine Ep.nil ?_ | with_reducible refine Ep.val ?_ | with_reducible refine Ep.own ?_ | with_reducible refine Eo.no ?_ | with_reducible refine Eo.yes ?_ | with_reducible refine Eb.no ?_ | with_reducible refine Eb.yes ?_
      | with_reducible refine Ei.exv ?_ | with_reducible refine Ei.ex rfl ?_ | with_reducible refine Ei.rng1 ?_ | with_reducible refine Ei.rng2 ?_ | with_reducible refine Ei.enum ?_ | with_reducible refine Ei.zip ?_
      | with_reducible refine Aft.nx ?_ | with_reducible refine Aft.rt ?_ | with_reducible refine Aft.ct ?_ | with_reducible refine Trn.nx ?_ | with_reducible refine Trn.rt ?_ | with_reducible refine Trn.ct ?_ | with_reducible refine Fin.rt ?_ | with_reducible refine Fin.nx ?_
      | with_reducible refine Ts.mk ?_ | with_reducible refine Pt.mk ?_ | with_reducible refine exb ?_ | with_reducible refine exi ?_ | with_reducible refine exii ?_
      | with_reducible refine pr_add ?_ | with_reducible refine pr_sub ?_ | with_reducible refine pr_gt ?_ | with_reducible refine pr_le ?_ | with_reducible refine pr_ge ?_ | with_reducible refine pr_lt ?_ | with_reducible refine pr_lts ?_ | with_reducible refine pr_eqi ?_ | with_reducible refine pr_nei ?_ | with_reducible refine pr_eqs ?_ | with_reducible refine pr_nes ?_ | with_reducible refine pr_eqb ?_ | with_reducible refine pr_in ?_ | with_reducible refine pr_nin ?_
      | with_reducible refine pr_len_l ?_ | with_reducible refine pr_len_t ?_ | with_reducible refine pr_len_r ?_ | with_reducible refine pr_len_k ?_ | with_reducible refine pr_abs ?_ | with_reducible refine pr_max ?_ | with_reducible refine pr_min ?_ | with_reducible refine pr_int ?_ | with_reducible refine pr_intb ?_ | with_reducible refine pr_tup_l ?_ | with_reducible refine pr_list_l ?_ | with_reducible refine pr_list_t ?_ | with_reducible refine pr_sorted ?_ | with_reducible refine pr_repr ?_
      | with_reducible refine pr_items_l ?_ | with_reducible refine pr_items_t ?_ | with_reducible refine pr_keys_l ?_ | with_reducible refine pr_keys_t ?_ | with_reducible refine pr_keys_k ?_ | with_reducible refine pr_keys_kt ?_ | with_reducible refine pr_sl_l ?_ | with_reducible refine pr_sl_t ?_ | with_reducible refine pr_rev ?_ | with_reducible refine pr_bind1 ?_ | with_reducible refine pr_binds1 ?_
      | (with_reducible refine pr_cell (by assumption) ?_ ?_; exact rfl)
      | rw [sF_vals rfl]))
theorem perm_of_map {α β : Type} {f : α → β} : ∀ {l : List β} {m : List α}, l.Perm (m.map f) → ∃ l' : List α, l = l'.map f ∧ l'.Perm m := by
  intro l m h
  generalize hm : m.map f = M at h
  induction h generalizing m with
  | nil => rw [List.map_eq_nil_iff] at hm; subst hm; exact ⟨[], rfl, .nil⟩
  | @cons x l1 l2 h ih =>
    cases m with
    | nil => cases hm
    | cons y m =>
      rw [List.map_cons, List.cons.injEq] at hm
      obtain ⟨l', h1, h2⟩ := ih hm.2
      exact ⟨y :: l', by rw [List.map_cons, h1, hm.1], h2.cons y⟩
  | @swap x y l =>
    match m, hm with
    | p :: q :: m, hm =>
      rw [List.map_cons, List.map_cons, List.cons.injEq, List.cons.injEq] at hm
      exact ⟨q :: p :: m, by rw [List.map_cons, List.map_cons, hm.1, hm.2.1, hm.2.2], .swap p q m⟩
  | @trans l1 l2 l3 h1 h2 ih1 ih2 =>
    obtain ⟨L1, q1, q2⟩ := ih2 hm
    obtain ⟨L2, q3, q4⟩ := ih1 q1.symm
    exact ⟨L2, q3, q4.trans q2⟩
def pairD (p : Str × Str) : D := .tup [.str p.1, .str p.2]
theorem name_ok {s : Str} (h : IsName s) : plD (.str s) = true := by
  show PyData.strOk s = true
  unfold PyData.strOk
  rw [← Array.all_toList, List.all_eq_true]
  intro c hc
  have := h.lets c hc
  exact decide_eq_true (by have := this.2; omega)
theorem pair_pl {p : Str × Str} (h1 : IsName p.1) (h2 : IsName p.2) : plD (pairD p) = true := by
  show plL [.str p.1, .str p.2] = true
  rw [plL, plL, plL, name_ok h1, name_ok h2]; rfl
theorem pair_dp (p : Str × Str) : dpD (pairD p) = 1 := rfl
theorem pairD_inj {p q : Str × Str} (h : pairD p = pairD q) : p = q := by
  obtain ⟨a, b⟩ := p
  obtain ⟨c, d⟩ := q
  simp only [pairD, D.tup.injEq, List.cons.injEq, D.str.injEq, and_true] at h
  rw [h.1, h.2]
theorem pairs_mem {p : Str × Str} {qs : List (Str × Str)} : pairD p ∈ qs.map pairD ↔ p ∈ qs := by
  constructor
  · intro h
    obtain ⟨q, hq, e⟩ := List.mem_map.mp h
    rw [← pairD_inj e]; exact hq
  · intro h
    exact List.mem_map.mpr ⟨p, h, rfl⟩
/-- a pair of routers in order -/
def GoodP (rs : List Str) (p : Str × Str) : Prop := p.1 ∈ rs ∧ p.2 ∈ rs ∧ SLt p.1 p.2
def P_pairs (m : FS) : Prop := ∀ (st : Store) (c b : Nat) (rs : List Str) (many : Int) (Q : D → Store → Prop), PotAt st c b → b + 25 < LIM → 2 ≤ rs.length → rs.length ≤ 8 → (∀ r ∈ rs, IsName r) → rs.Pairwise SLt → many ≤ 16 →
  (∀ (ps : List (Str × Str)) st', (∀ p ∈ ps, GoodP rs p) → ps.Nodup → ps.length ≤ 16 → Nxt c (b + 25) st st' → Q (.lst (ps.map pairD)) st') → Cl m [.cell c, .tup (rs.map D.str), .int many] st Q
theorem hasL_pairs (ts : List (Str × Str)) : D.hasLs (ts.map pairD) = false := hasLs_all.mpr fun d hd => by
  obtain ⟨t, _, rfl⟩ := List.mem_map.mp hd
  rfl
theorem plL_pairs {ts : List (Str × Str)} {rs : List Str} (hn : ∀ r ∈ rs, IsName r) (h : ∀ t ∈ ts, GoodP rs t) : plL (ts.map pairD) = true := plL_all.mpr fun d hd => by
  obtain ⟨t, ht, rfl⟩ := List.mem_map.mp hd
  exact pair_pl (hn _ (h t ht).1) (hn _ (h t ht).2.1)
theorem dpL_pairs (ts : List (Str × Str)) : dpL (ts.map pairD) ≤ 60 := dpL_le.mpr fun d hd => by
  obtain ⟨t, ht, rfl⟩ := List.mem_map.mp hd
  rw [pair_dp]; decide
set_option maxHeartbeats 8000000 in
theorem pairs_ok {T : Tab} (hT : Has T "_law_take" P_take) (hTu : Has T "_law_turned" P_turned) : P_pairs (den T N__law_pairs 3 c__law_pairs) := by
  intro st c b rs many Q hp hb h2 h8 hnm asc hmany k
  have hlim : b + 25 < 2 ^ 60 := hb
  have nd : rs.Nodup := pw_nodup asc
  have ordr : ∀ i j (hi : i < rs.length) (hj : j < rs.length), i < j → SLt rs[i] rs[j] := fun i j hi hj hij => List.pairwise_iff_getElem.mp asc i j hi hj hij
  refine Cl.den rfl (i__law_pairs _ _ _) ?_
  unfold c__law_pairs
  (repeat (exists run1))
  refine Ee.callH hTu fun m1 hm1 => ?_
  (repeat (exists run1))
  have hne : rs.map D.str ≠ [] := by
    intro z
    rw [List.map_eq_nil_iff] at z
    subst z
    simp at h2
  refine hm1 _ _ b _ _ hp (by omega) hne (by rw [List.length_map]; omega) fun ys s1 hpm hn1 => ?_
  obtain ⟨os, rfl, pm⟩ := perm_of_map hpm
  have ndo : os.Nodup := pm.nodup_iff.mpr nd
  have hol : os.length = rs.length := pm.length_eq
  (repeat (exists run1))
  refine ⟨rfl, ?_⟩
  (repeat (exists run1))
  refine ⟨rfl, ?_⟩
  (repeat (exists run1))
  refine Ee.callH hT fun m2 hm2 => ?_
  (repeat (exists run1))
  refine hm2 _ _ (b + 2) _ _ hn1.pot (by decide) (by decide) (by omega) fun r2 s2 _ hn2 => ?_
  (repeat (exists run1))
  generalize decide ((0 : Int) < r2) = jn
  refine pr_rng ⟨by decide, by decide, by rw [List.length_map]; omega, by rw [List.length_map]; omega, by rw [List.length_map, sizeLine_eq]; omega⟩ ?_
  -- the first links
  refine Lp.inv (fun i e s => ∃ (s4 s9 : Sl) (qs : List (Str × Str)), e = [.val (.cell c), .val (.tup (rs.map D.str)), .val (.int many), .val (.bl jn), s4, .un, .val (.lst (os.map D.str)), .own (.lst (qs.map pairD)), .un, s9, .un] ∧
    (∀ q ∈ qs, GoodP rs q ∧ ∃ x y : Nat, y < x ∧ x ≤ i ∧ ((os[x]? = some q.1 ∧ os[y]? = some q.2) ∨ (os[y]? = some q.1 ∧ os[x]? = some q.2))) ∧ qs.Nodup ∧ qs.length ≤ i ∧ Nxt c (b + 3 + 2 * i) st s) ?_ ?_ ?_
  · exact ⟨.un, .un, [], rfl, fun q hq => absurd hq List.not_mem_nil, List.nodup_nil, Nat.le_refl _, hn1.trans hn2⟩
  · rintro i d e s hd ⟨s4, s9, qs, rfl, hq, hqn, hql, hns⟩
    have hd2 : d = .int (1 + (i : Int)) ∧ i + 1 < rs.length := by
      rw [List.getElem?_map] at hd
      obtain ⟨z, h1, h2⟩ := Option.map_eq_some_iff.mp hd
      obtain ⟨h3, h4⟩ := List.getElem?_eq_some_iff.mp h1
      rw [List.getElem_range] at h4
      rw [List.length_range, List.length_map] at h3
      subst h4
      exact ⟨h2.symm, by omega⟩
    obtain ⟨rfl, hi⟩ := hd2
    have hio : i + 1 < os.length := by omega
    have ei : (1 + (i : Int)) = ((i + 1 : Nat) : Int) := by omega
    refine pr_binds1 (Ex.iff (Ts.mono (P := fun k e s' => e = [.val (.cell c), .val (.tup (rs.map D.str)), .val (.int many), .val (.bl jn), .val (.int (1 + (i : Int))), .un, .val (.lst (os.map D.str)), .own (.lst (qs.map pairD)), .un, s9, .un] ∧ Nxt c (b + 3 + 2 * i + 1) st s') ?_ ?_))
    · (repeat (exists run1))
      refine ⟨fun _ => ?_, fun _ => ?_⟩
      · (repeat (exists run1))
        refine Ee.callH hT fun m3 hm3 => ?_
        (repeat (exists run1))
        refine hm3 _ _ (b + 3 + 2 * i) _ _ hns.pot (by decide) (by decide) (by show _ < 2 ^ 60; omega) fun t s3 ht hn3 => ?_
        (repeat (exists run1))
        exact ⟨rfl, hns.trans hn3⟩
      · (repeat (exists run1))
        exact ⟨rfl, hns.mono (by omega)⟩
    rintro kk e s' ⟨rfl, hns'⟩
    refine ⟨fun _ => ?_, fun _ => ?_⟩
    · -- one more
      (repeat (exists run1))
      refine Ee.callH hT fun m3 hm3 => ?_
      (repeat (exists run1))
      refine hm3 _ _ (b + 3 + 2 * i + 1) _ _ hns'.pot (by split <;> omega) (by split <;> omega) (by show _ < 2 ^ 60; omega) fun t s3 ht hn3 => ?_
      (repeat (exists run1))
      have hto : (t : Int) ≤ i := by
        revert ht
        split <;> omega
      have ej : (1 + (i : Int)) - 1 - t = ((i - t : Nat) : Int) := by omega
      have hjo : i - t < os.length := by omega
      have hat : atI (os.map D.str) ((1 + (i : Int)) - 1 - t) = some (.str os[i - t]) := by rw [ej, atI_nat, List.getElem?_map, List.getElem?_eq_getElem hjo]; rfl
      have hat1 : atI (os.map D.str) (1 + (i : Int)) = some (.str os[i + 1]) := by rw [ei, atI_nat, List.getElem?_map, List.getElem?_eq_getElem hio]; rfl
      have hne2 : os[i + 1] ≠ os[i - t] := fun z => by
        have := (List.getElem_inj ndo).mp z
        omega
      have m1 : os[i + 1] ∈ rs := pm.mem_iff.mp (List.getElem_mem hio)
      have m2 : os[i - t] ∈ rs := pm.mem_iff.mp (List.getElem_mem hjo)
      -- a pair put in
      have fin : ∀ q : Str × Str, GoodP rs q → ((os[i + 1]? = some q.1 ∧ os[i - t]? = some q.2) ∨ (os[i - t]? = some q.1 ∧ os[i + 1]? = some q.2)) → (∀ q' ∈ qs ++ [q], GoodP rs q' ∧ ∃ x y : Nat, y < x ∧ x ≤ i + 1 ∧ ((os[x]? = some q'.1 ∧ os[y]? = some q'.2) ∨ (os[y]? = some q'.1 ∧ os[x]? = some q'.2))) ∧ (qs ++ [q]).Nodup := by
        intro q hg hcase
        refine ⟨fun q' hq' => ?_, ?_⟩
        · rcases List.mem_append.mp hq' with h | h
          · obtain ⟨g, x, y, h1, h2, h3⟩ := hq q' h
            exact ⟨g, x, y, h1, by omega, h3⟩
          · have : q' = q := by simpa using h
            subst this
            exact ⟨hg, i + 1, i - t, by omega, Nat.le_refl _, hcase⟩
        · rw [List.nodup_append]
          refine ⟨hqn, by simp, fun a ha b' hb' z => ?_⟩
          have : b' = q := by simpa using hb'
          subst this
          subst z
          obtain ⟨_, x, y, h1, h2, h3⟩ := hq a ha
          have inj : ∀ {u v : Nat} {w : Str}, os[u]? = some w → os[v]? = some w → u = v := fun {u v w} e1 e2 => by
            obtain ⟨l1, g1⟩ := List.getElem?_eq_some_iff.mp e1
            obtain ⟨l2, g2⟩ := List.getElem?_eq_some_iff.mp e2
            exact (List.getElem_inj ndo).mp (g1.trans g2.symm)
          rcases hcase with ⟨c1, c2⟩ | ⟨c1, c2⟩ <;> rcases h3 with ⟨d1, d2⟩ | ⟨d1, d2⟩
          · have := inj c1 d1; omega
          · have := inj c1 d1; omega
          · have := inj c2 d2; omega
          · have := inj c2 d2; omega
      have hlen : (qs.map pairD).length < sizeLine := by rw [List.length_map, sizeLine_eq]; omega
      (repeat (first | exists run1 | refine pr_subl hat ?_ | refine pr_subl hat1 ?_))
      refine ⟨fun hlt => ?_, fun hlt => ?_⟩
      · (repeat (first | exists run1 | refine pr_subl hat1 ?_))
        refine ⟨_, rfl, hlen, ?_⟩
        (repeat (exists run1))
        obtain ⟨f1, f2⟩ := fin (os[i + 1], os[i - t]) ⟨m1, m2, of_decide_eq_true hlt⟩ (.inl ⟨List.getElem?_eq_getElem hio, List.getElem?_eq_getElem hjo⟩)
        refine ⟨.val (.int (1 + (i : Int))), .val (.str os[i - t]), qs ++ [(os[i + 1], os[i - t])], by rw [List.map_append]; rfl, f1, f2, by rw [List.length_append]; simp; omega, hns'.trans (hn3.mono (by omega))⟩
      · (repeat (first | exists run1 | refine pr_subl hat1 ?_))
        refine ⟨_, rfl, hlen, ?_⟩
        (repeat (exists run1))
        have hgt : SLt os[i - t] os[i + 1] := by
          rcases SLt.tri os[i + 1] os[i - t] with z | z | z
          · exact absurd z (of_decide_eq_false hlt)
          · exact absurd z hne2
          · exact z
        obtain ⟨f1, f2⟩ := fin (os[i - t], os[i + 1]) ⟨m2, m1, hgt⟩ (.inr ⟨List.getElem?_eq_getElem hjo, List.getElem?_eq_getElem hio⟩)
        refine ⟨.val (.int (1 + (i : Int))), .val (.str os[i - t]), qs ++ [(os[i - t], os[i + 1])], by rw [List.map_append]; rfl, f1, f2, by rw [List.length_append]; simp; omega, hns'.trans (hn3.mono (by omega))⟩
    · (repeat (exists run1))
      exact ⟨.val (.int (1 + (i : Int))), s9, qs, rfl, fun q hq' => by
        obtain ⟨g, x, y, h1, h2, h3⟩ := hq q hq'
        exact ⟨g, x, y, h1, by omega, h3⟩, hqn, by omega, hns'.mono (by omega)⟩
  · rintro e s ⟨s4, s9, qs, rfl, hq, hqn, hql, hns⟩
    rw [List.length_map, List.length_range, List.length_map] at hql hns
    have hql : qs.length ≤ 7 := by omega
    have hns : Nxt c (b + 17) st s := hns.mono (by omega)
    have hgq : ∀ q ∈ qs, GoodP rs q := fun q hq' => (hq q hq').1
    have pq : plL (qs.map pairD) = true := plL_pairs hnm hgq
    (repeat (exists run1))
    refine ⟨rfl, ?_⟩
    (repeat (exists run1))
    refine ⟨rs.map D.str, .inr rfl, ?_⟩
    refine Lp.inv (fun i e s' => ∃ (s4 s8 : Sl) (ts : List (Str × Str)), e = [.val (.cell c), .val (.tup (rs.map D.str)), .val (.int many), .val (.bl jn), s4, .own (.lst (ts.map pairD)), .val (.lst (os.map D.str)), .own (.lst (qs.map pairD)), s8, s9, .un] ∧
      (∀ t ∈ ts, GoodP rs t ∧ t ∉ qs ∧ t.1 ∈ rs.take i) ∧ ts.Nodup ∧ ts.length ≤ 8 * i ∧ s' = s) ?_ ?_ ?_
    · exact ⟨s4, .un, [], rfl, fun q hq => absurd hq List.not_mem_nil, List.nodup_nil, Nat.le_refl _, rfl⟩
    · rintro i d e s' hd ⟨s4', s8, ts, rfl, ht, htn, htl, rfl⟩
      obtain ⟨x, hx, rfl⟩ := enum_get hd
      rw [List.getElem?_map] at hx
      obtain ⟨a, ha, rfl⟩ := Option.map_eq_some_iff.mp hx
      obtain ⟨hi, hai⟩ := List.getElem?_eq_some_iff.mp ha
      refine pr_bindsn rfl ?_
      (repeat (exists run1))
      refine Ee.comp_map (rs.drop (i + 1)) D.str (fun y => !decide ((a, y) ∈ qs)) (fun y => pairD (a, y)) ?_
      (repeat (exists run1))
      have e1 : ((i : Int) + 1) = ((i + 1 : Nat) : Int) := by omega
      refine ⟨by rw [e1, cut_from, List.map_drop], fun y hy => ?_, ?_⟩
      · have hyr : y ∈ rs := List.mem_of_mem_drop hy
        have har : a ∈ rs := List.mem_of_getElem? ha
        unfold Cp
        (repeat (exists run1))
        refine pr_inl (pair_pl (p := (a, y)) (hnm _ har) (hnm _ hyr)) pq (by rw [show dpD (.tup [.str a, .str y]) = 1 from rfl]; decide) (dpL_pairs qs) fun cc hcc => ?_
        have hcc2 : cc = decide ((a, y) ∈ qs) := by
          have : cc = true ↔ (a, y) ∈ qs := hcc.trans (pairs_mem (p := (a, y)))
          cases cc with
          | true => exact (decide_eq_true (this.mp rfl)).symm
          | false => exact (decide_eq_false (fun z => by have := this.mpr z; cases this)).symm
        (repeat (exists run1))
        refine ⟨fun h => ?_, fun h => ?_⟩
        · (repeat (exists run1))
          rw [hcc2] at h
          rw [h]
          exact ⟨rfl, rfl⟩
        · rw [hcc2] at h
          rw [h]
          exact ⟨rfl, rfl⟩
      · have em : ((rs.drop (i + 1)).filter fun y => !decide ((a, y) ∈ qs)).map (fun y => pairD (a, y)) = (((rs.drop (i + 1)).filter fun y => !decide ((a, y) ∈ qs)).map fun y => (a, y)).map pairD := by rw [List.map_map]; rfl
        rw [em]
        generalize hzs : (((rs.drop (i + 1)).filter fun y => !decide ((a, y) ∈ qs)).map fun y => (a, y)) = zs
        have zl : zs.length ≤ 8 := by
          rw [← hzs, List.length_map]
          refine Nat.le_trans (List.length_filter_le _ _) ?_
          rw [List.length_drop]; omega
        have bk : ∀ o : List D, backs (.lst o) (zs.map pairD) = true := fun o => by show (!D.hasLs (zs.map pairD)) = true; rw [hasL_pairs]; rfl
        have hz : ∀ z ∈ zs, z.1 = a ∧ z.2 ∈ rs.drop (i + 1) ∧ z ∉ qs := fun z hz => by
          rw [← hzs] at hz
          obtain ⟨y, hy, rfl⟩ := List.mem_map.mp hz
          rw [List.mem_filter] at hy
          refine ⟨rfl, hy.1, fun w => ?_⟩
          have := hy.2
          rw [decide_eq_true w] at this
          cases this
        refine ⟨ts.map pairD, zs.map pairD, rfl, rfl, by rw [List.length_map, List.length_map, sizeLine_eq]; omega, ?_⟩
        refine Trn.nx ⟨.val (.int i), .val (.str a), ts ++ zs, ?_, fun t ht' => ?_, ?_, by rw [List.length_append]; omega, rfl⟩
        · rw [List.map_append]
          have e7 : sS1 (zs.map pairD) (.own (.lst (qs.map pairD))) = .own (.lst (qs.map pairD)) := by show (bif backs _ _ then _ else _) = _; rw [bk]; rfl
          show [_, _, _, _, _, _, _, sS1 (zs.map pairD) (.own (.lst (qs.map pairD))), _, _, _] = _
          rw [e7]
          rfl
        · rcases List.mem_append.mp ht' with h | h
          · obtain ⟨g1, g2, g3⟩ := ht t h
            refine ⟨g1, g2, ?_⟩
            rw [List.take_succ]
            exact List.mem_append_left _ g3
          · obtain ⟨g1, g2, g3⟩ := hz t h
            have har : a ∈ rs := List.mem_of_getElem? ha
            obtain ⟨j, hj, ej⟩ := List.mem_iff_getElem.mp g2
            rw [List.getElem_drop] at ej
            have hj2 : i + 1 + j < rs.length := by rw [List.length_drop] at hj; omega
            refine ⟨⟨g1 ▸ har, List.mem_of_mem_drop g2, ?_⟩, g3, ?_⟩
            · rw [g1, ← hai, ← ej]
              exact ordr i (i + 1 + j) hi hj2 (by omega)
            · rw [List.take_succ, ha, g1]
              exact List.mem_append_right _ (by simp)
        · rw [List.nodup_append]
          refine ⟨htn, ?_, fun x hx y hy z => ?_⟩
          · rw [← hzs]
            unfold List.Nodup
            rw [List.pairwise_map]
            have := (List.Nodup.sublist (List.filter_sublist (p := fun y => !decide ((a, y) ∈ qs))) ((List.drop_sublist (i + 1) rs).nodup nd))
            exact this.imp fun h z => h (by cases z; rfl)
          · subst z
            have h1 := (ht x hx).2.2
            rw [(hz x hy).1] at h1
            obtain ⟨j, hj, ej⟩ := List.mem_iff_getElem.mp h1
            rw [List.getElem_take] at ej
            rw [List.length_take] at hj
            have := (List.getElem_inj nd).mp (ej.trans hai.symm)
            omega
    · rintro e s' ⟨s4', s8, ts, rfl, ht, htn, htl, rfl⟩
      have htl : ts.length ≤ 64 := by
        have e8 : (enumD (rs.map D.str)).length = rs.length := by simp [enumD]
        rw [e8] at htl
        omega
      have hgt : ∀ t ∈ ts, GoodP rs t := fun t h => (ht t h).1
      have pt : plL (ts.map pairD) = true := plL_pairs hnm hgt
      (repeat (exists run1))
      refine pr_nepl (show plD (.lst (ts.map pairD)) = true from pt) rfl (by show dpL (ts.map pairD) + 1 ≤ 60; have : dpL (ts.map pairD) ≤ 1 := dpL_le.mpr fun d hd => (by obtain ⟨t, _, rfl⟩ := List.mem_map.mp hd; exact Nat.le_refl _); omega) (by decide) fun cc hcc => ?_
      (repeat (exists run1))
      refine ⟨fun h => ?_, fun h => ?_⟩
      · have hts : ts.map pairD ≠ [] := fun z => by
          rw [z] at hcc
          rw [hcc.mpr rfl] at h
          cases h
        (repeat (exists run1))
        refine Ee.callH hTu fun m4 hm4 => ?_
        (repeat (exists run1))
        refine hm4 _ _ (b + 17) _ _ hns.pot (by show _ < 2 ^ 60; omega) hts (by rw [List.length_map]; omega) fun us s5 hpm5 hn5 => ?_
        obtain ⟨us, rfl, pm5⟩ := perm_of_map hpm5
        (repeat (exists run1))
        rw [List.length_map]
        have en : (if many - (qs.length : Int) > 0 then many - (qs.length : Int) else 0) = (((if many - (qs.length : Int) > 0 then many - (qs.length : Int) else 0).toNat : Nat) : Int) := by split <;> omega
        rw [en, cut_to]
        have ku : ((if many - (qs.length : Int) > 0 then many - (qs.length : Int) else 0).toNat : Nat) + qs.length ≤ 16 := by split <;> omega
        generalize (if many - (qs.length : Int) > 0 then many - (qs.length : Int) else 0).toNat = u at ku
        rw [← List.map_take]
        refine pr_addl (by rw [List.length_map, List.length_map, List.length_take, sizeLine_eq]; omega) ?_
        rw [← List.map_append]
        refine Fin.rt (k _ _ (fun p hp' => ?_) ?_ ?_ (hns.trans (hn5.mono (by omega))))
        · rcases List.mem_append.mp hp' with h | h
          · exact hgq p h
          · exact hgt p (pm5.mem_iff.mp (List.mem_of_mem_take h))
        · rw [List.nodup_append]
          refine ⟨hqn, (List.take_sublist u us).nodup (pm5.nodup_iff.mpr htn), fun x hx y hy z => ?_⟩
          subst z
          exact (ht x (pm5.mem_iff.mp (List.mem_of_mem_take hy))).2.1 hx
        · rw [List.length_append, List.length_take]; omega
      · (repeat (exists run1))
        exact k qs _ hgq hqn (by omega) (hns.mono (by omega))
end Q

set_option Elab.async false
set_option linter.all false
set_option maxRecDepth 100000
set_option maxHeartbeats 1000000
namespace Q
open PySem PySem.Spec PyProof.Rows L2
local macro_rules
  | `(tactic| exists run1) => `(tactic| (first
      | with_reducible refine Ex.seq ?_ | with_reducible refine Ex.set ?_ | with_reducible refine Ex.ret ?_ | with_reducible refine Ex.exp ?_ | with_reducible refine Ex.setOwn ?_ | with_reducible refine Ex.unpack ?_ | with_reducible refine Ex.par ?_ | with_reducible refine Ex.put ?_ | with_reducible refine Ex.app ?_ | with_reducible refine Ex.ext ?_ | with_reducible refine Ex.iff ?_ | with_reducible refine Ex.skip ?_ | with_reducible refine Ex.retN ?_ | with_reducible refine Ex.cont ?_ | with_reducible refine Ex.puts ?_ | with_reducible refine Ex.setA ?_ | with_reducible refine Ex.loop ?_
      | (with_reducible refine Ee.isv ?_; refine Ee.var rfl ?_)
      | with_reducible refine Ee.int ?_ | with_reducible refine Ee.bl ?_ | with_reducible refine Ee.str ?_ | with_reducible refine Ee.non ?_ | with_reducible refine Ee.tup ?_ | with_reducible refine Ee.lst ?_ | with_reducible refine Ee.bin ?_ | with_reducible refine Ee.neg ?_ | with_reducible refine Ee.cmp ?_ | with_reducible refine Ee.chain ?_ | with_reducible refine Ee.and ?_ | with_reducible refine Ee.or ?_ | with_reducible refine Ee.not ?_ | with_reducible refine Ee.ife ?_ | with_reducible refine Ee.sub ?_ | with_reducible refine Ee.slice ?_ | with_reducible refine Ee.rev ?_ | with_reducible refine Ee.sortset ?_ | with_reducible refine Ee.isi ?_ | with_reducible refine Ee.blt ?_ | with_reducible refine Ee.dct ?_ | with_reducible refine Ee.dnewT ?_ | with_reducible refine Ee.dnewK ?_
      | with_reducible refine El.cons ?_ | with_reducible refine El.nil ?_ | with_reducible refine Ep.nil ?_ | with_reducible refine Ep.val ?_ | with_reducible refine Ep.own ?_ | with_reducible refine Eo.no ?_ | with_reducible refine Eo.yes ?_ | with_reducible refine Eb.no ?_ | with_reducible refine Eb.yes ?_
      | with_reducible refine Ei.exv ?_ | with_reducible refine Ei.ex rfl ?_ | with_reducible refine Ei.rng1 ?_ | with_reducible refine Ei.rng2 ?_ | with_reducible refine Ei.enum ?_ | with_reducible refine Ei.zip ?_
      | with_reducible refine Aft.nx ?_ | with_reducible refine Aft.rt ?_ | with_reducible refine Aft.ct ?_ | with_reducible refine Trn.nx ?_ | with_reducible refine Trn.rt ?_ | with_reducible refine Trn.ct ?_ | with_reducible refine Fin.rt ?_ | with_reducible refine Fin.nx ?_
      | with_reducible refine Ts.mk ?_ | with_reducible refine Pt.mk ?_ | with_reducible refine exb ?_ | with_reducible refine exi ?_ | with_reducible refine exii ?_
      | with_reducible refine pr_add ?_ | with_reducible refine pr_sub ?_ | with_reducible refine pr_gt ?_ | with_reducible refine pr_le ?_ | with_reducible refine pr_ge ?_ | with_reducible refine pr_lt ?_ | with_reducible refine pr_lts ?_ | with_reducible refine pr_eqi ?_ | with_reducible refine pr_nei ?_ | with_reducible refine pr_eqs ?_ | with_reducible refine pr_nes ?_ | with_reducible refine pr_eqb ?_ | with_reducible refine pr_in ?_ | with_reducible refine pr_nin ?_
      | with_reducible refine pr_len_l ?_ | with_reducible refine pr_len_t ?_ | with_reducible refine pr_len_r ?_ | with_reducible refine pr_len_k ?_ | with_reducible refine pr_abs ?_ | with_reducible refine pr_max ?_ | with_reducible refine pr_min ?_ | with_reducible refine pr_int ?_ | with_reducible refine pr_intb ?_ | with_reducible refine pr_tup_l ?_ | with_reducible refine pr_list_l ?_ | with_reducible refine pr_list_t ?_ | with_reducible refine pr_sorted ?_ | with_reducible refine pr_repr ?_
      | with_reducible refine pr_items_l ?_ | with_reducible refine pr_items_t ?_ | with_reducible refine pr_keys_l ?_ | with_reducible refine pr_keys_t ?_ | with_reducible refine pr_keys_k ?_ | with_reducible refine pr_keys_kt ?_ | with_reducible refine pr_sl_l ?_ | with_reducible refine pr_sl_t ?_ | with_reducible refine pr_rev ?_ | with_reducible refine pr_bind1 ?_ | with_reducible refine pr_binds1 ?_
      | (with_reducible refine pr_cell (by assumption) ?_ ?_; exact rfl)
      | rw [sF_vals rfl]))
theorem pw_any {α : Type} {R : α → α → Prop} (sym : ∀ x y, R x y → R y x) : ∀ {l : List α}, l.Pairwise R → ∀ {a b : α}, a ∈ l → b ∈ l → a ≠ b → R a b
  | [], _, _, _, h, _, _ => absurd h List.not_mem_nil
  | x :: l, hp, a, b, ha, hb, hab => by
    rw [List.pairwise_cons] at hp
    rcases List.mem_cons.mp ha with h1 | h1
    · rcases List.mem_cons.mp hb with h2 | h2
      · exact absurd (h1.trans h2.symm) hab
      · rw [h1]; exact hp.1 b h2
    · rcases List.mem_cons.mp hb with h2 | h2
      · rw [h2]; exact sym _ _ (hp.1 a h1)
      · exact pw_any sym hp.2 h1 h2 hab
/-- routers and links of a net, lengths up to B -/
structure IsW (B : Int) (rs : List Str) (ls : List Lk) : Prop where
  two : 2 ≤ rs.length
  eight : rs.length ≤ 8
  names : ∀ r ∈ rs, IsName r
  asc : rs.Pairwise SLt
  few : ls.length ≤ 16
  lk : ∀ l ∈ ls, GoodP rs (l.1, l.2.1) ∧ 1 ≤ l.2.2.1 ∧ l.2.2.1 ≤ B ∧ 1 ≤ l.2.2.2 ∧ l.2.2.2 ≤ B
  lasc : ls.Pairwise PLt
def rsD (rs : List Str) : D := .tup (rs.map D.str)
def lsD (ls : List Lk) : D := .tup (ls.map lkD)
def worldD (rs : List Str) (ls : List Lk) : D := .tup [rsD rs, lsD ls]
def P_world (m : FS) : Prop := ∀ (st : Store) (c b least most more : Nat) (Q : D → Store → Prop), PotAt st c b → b + 150 < LIM → 2 ≤ least → least ≤ most → most ≤ 8 → more ≤ 100 →
  (∀ (rs : List Str) (ls : List Lk) st', IsW 90 rs ls → least ≤ rs.length → rs.length ≤ most → Nxt c (b + 150) st st' → Q (worldD rs ls) st') → Cl m [.cell c, .int least, .int most, .int more] st Q
set_option maxHeartbeats 8000000 in
theorem world_ok {T : Tab} (hT : Has T "_law_take" P_take) (hN : Has T "_law_names" P_names) (hP : Has T "_law_pairs" P_pairs) (hF : Has T "_law_far" P_far) : P_world (den T N__law_world 4 c__law_world) := by
  intro st c b least most more Q hp hb h2 hlm h8 hmo k
  have hlim : b + 150 < 2 ^ 60 := hb
  refine Cl.den rfl (i__law_world _ _ _ _) ?_
  unfold c__law_world
  (repeat (exists run1))
  refine Ee.callH hT fun m1 hm1 => ?_
  (repeat (exists run1))
  refine hm1 _ _ b _ _ hp (by omega) (by omega) (by show _ < 2 ^ 60; omega) fun t s1 ht hn1 => ?_
  (repeat (exists run1))
  have en : ((least : Int) + (t : Int)) = ((least + t : Nat) : Int) := by omega
  rw [en]
  have hn8 : least + t ≤ most := by omega
  generalize hnn : least + t = n at hn8
  refine Ee.callH hN fun m2 hm2 => ?_
  (repeat (exists run1))
  refine hm2 _ _ (b + 1) _ _ hn1.pot (by show _ < 2 ^ 60; omega) (by omega) (by omega) fun rs s2 hrl hnm asc hn2 => ?_
  (repeat (exists run1))
  refine Ee.callH hP fun m3 hm3 => ?_
  (repeat (exists run1))
  refine Ee.callH hT fun m4 hm4 => ?_
  (repeat (exists run1))
  refine hm4 _ _ (b + 1 + 12) _ _ hn2.pot (by omega) (by omega) (by show _ < 2 ^ 60; omega) fun t2 s3 ht2 hn3 => ?_
  (repeat (exists run1))
  refine hm3 _ _ (b + 1 + 12 + 1) rs _ _ hn3.pot (by show _ < 2 ^ 60; omega) (by omega) (by omega) hnm asc (by split <;> omega) fun ps s4 hps hpn hpl hn4 => ?_
  (repeat (exists run1))
  refine ⟨rfl, ?_⟩
  (repeat (exists run1))
  refine Ee.callH hT fun m5 hm5 => ?_
  (repeat (exists run1))
  refine hm5 _ _ (b + 1 + 12 + 1 + 25) _ _ hn4.pot (by decide) (by decide) (by show _ < 2 ^ 60; omega) fun t5 s5 ht5 hn5 => ?_
  (repeat (exists run1))
  refine ⟨rfl, ?_⟩
  (repeat (exists run1))
  generalize ((t5 : Int) == 0) = ev
  have hN5 : Nxt c (b + 40) st s5 := ((((hn1.trans hn2).trans hn3).trans hn4).trans hn5).mono (by omega)
  refine Lp.inv (fun i e s => ∃ (s9 s10 s11 : Sl) (ls : List Lk), e = [.val (.cell c), .val (.int least), .val (.int most), .val (.int more), .val (.int n), .val (rsD rs), .val (.lst (ps.map pairD)), .own (.lst (ls.map lkD)), .val (.bl ev), s9, s10, s11] ∧
    (∀ l ∈ ls, 1 ≤ l.2.2.1 ∧ l.2.2.1 ≤ 90 ∧ 1 ≤ l.2.2.2 ∧ l.2.2.2 ≤ 90) ∧ ls.map (fun l => (l.1, l.2.1)) = ps.take i ∧ Nxt c (b + 40 + 6 * i) st s) ?_ ?_ ?_
  · exact ⟨.un, .un, .un, [], rfl, fun l hl => absurd hl List.not_mem_nil, rfl, hN5⟩
  · rintro i d e s hd ⟨s9, s10, s11, ls, rfl, hl, hmap, hns⟩
    rw [List.getElem?_map] at hd
    obtain ⟨p, hpi, rfl⟩ := Option.map_eq_some_iff.mp hd
    have hi : i < 16 := Nat.lt_of_lt_of_le (List.getElem?_eq_some_iff.mp hpi).1 hpl
    refine pr_bindsn rfl ?_
    (repeat (exists run1))
    refine Ee.callH hF fun m6 hm6 => ?_
    (repeat (exists run1))
    refine hm6 _ _ (b + 40 + 6 * i) _ hns.pot (by show _ < 2 ^ 60; omega) fun z s6 hz1 hz2 hn6 => ?_
    (repeat (exists run1))
    have fin : ∀ (y : Int) (s' : Store), 1 ≤ y → y ≤ 90 → Nxt c (b + 40 + 6 * (i + 1)) st s' → (ls ++ [(p.1, p.2, z, y)]).map (fun l => (l.1, l.2.1)) = ps.take (i + 1) ∧ (∀ l ∈ ls ++ [(p.1, p.2, z, y)], 1 ≤ l.2.2.1 ∧ l.2.2.1 ≤ 90 ∧ 1 ≤ l.2.2.2 ∧ l.2.2.2 ≤ 90) := fun y s' hy1 hy2 _ => by
      refine ⟨by rw [List.map_append, hmap, List.take_succ, hpi]; rfl, fun l hl' => ?_⟩
      rcases List.mem_append.mp hl' with h | h
      · exact hl l h
      · have : l = (p.1, p.2, z, y) := by simpa using h
        subst this
        exact ⟨hz1, hz2, hy1, hy2⟩
    have hll : (ls.map lkD).length < sizeLine := by
      have := congrArg List.length hmap
      rw [List.length_map, List.length_take] at this
      rw [List.length_map, sizeLine_eq]; omega
    refine ⟨fun _ => ?_, fun _ => ?_⟩
    · (repeat (exists run1))
      refine ⟨_, rfl, hll, ?_⟩
      obtain ⟨f1, f2⟩ := fin z s6 hz1 hz2 (hns.trans (hn6.mono (by omega)))
      exact Trn.nx ⟨.val (.str p.1), .val (.str p.2), .val (.int z), ls ++ [(p.1, p.2, z, z)], by rw [List.map_append]; rfl, f2, f1, hns.trans (hn6.mono (by omega))⟩
    · (repeat (exists run1))
      refine Ee.callH hF fun m7 hm7 => ?_
      (repeat (exists run1))
      refine hm7 _ _ (b + 40 + 6 * i + 3) _ hn6.pot (by show _ < 2 ^ 60; omega) fun y s7 hy1 hy2 hn7 => ?_
      (repeat (exists run1))
      refine ⟨_, rfl, hll, ?_⟩
      obtain ⟨f1, f2⟩ := fin y s7 hy1 hy2 ((hns.trans hn6).trans (hn7.mono (by omega)))
      exact Trn.nx ⟨.val (.str p.1), .val (.str p.2), .val (.int z), ls ++ [(p.1, p.2, z, y)], by rw [List.map_append]; rfl, f2, f1, (hns.trans hn6).trans (hn7.mono (by omega))⟩
  · rintro e s ⟨s9, s10, s11, ls, rfl, hl, hmap, hns⟩
    rw [List.length_map, List.take_length] at hmap
    have hll : ls.length = ps.length := by rw [← hmap, List.length_map]
    have uni : ∀ a ∈ ls, ∀ b ∈ ls, a.1 = b.1 → a.2.1 = b.2.1 → a = b := by
      intro a ha b' hb' e1 e2
      have ndl : (ls.map fun l => (l.1, l.2.1)).Nodup := by rw [hmap]; exact hpn
      unfold List.Nodup at ndl
      rw [List.pairwise_map] at ndl
      by_cases hab : a = b'
      · exact hab
      · exfalso
        exact pw_any (R := fun x y : Lk => (x.1, x.2.1) ≠ (y.1, y.2.1)) (fun _ _ h => h.symm) ndl ha hb' hab (by rw [e1, e2])
    obtain ⟨ys, hy1, hy2, hy3⟩ := sortset_lks (by omega) uni
    have hyl : ys.length ≤ 16 := by
      have nd1 : ys.Nodup := hy3.imp fun {x y} h z => by
        subst z
        rcases h with h | ⟨_, h⟩
        · exact SLt.irrefl _ h
        · exact SLt.irrefl _ h
      have : ys.length ≤ ls.length := by
        exact nd1.length_le_of_subset fun a ha => (hy2 a).mp ha
      omega
    (repeat (exists run1))
    refine Pr.of hy1 ?_
    (repeat (exists run1))
    have hpl2 : (ps.map pairD).length = ps.length := List.length_map _
    refine k rs ys s ⟨by omega, by omega, hnm, asc, hyl, fun l hl' => ?_, hy3⟩ (by omega) (by omega) (hns.mono (by rw [hpl2]; omega))
    have hm := (hy2 l).mp hl'
    refine ⟨hps _ ?_, hl l hm⟩
    rw [← hmap]
    exact List.mem_map.mpr ⟨l, hm, rfl⟩
end Q

set_option Elab.async false
set_option linter.all false
set_option maxRecDepth 100000
set_option maxHeartbeats 1000000
namespace Q
open PySem PySem.Spec PyProof.Rows L2
local macro_rules
  | `(tactic| exists run1) => `(tactic| (first
      | with_reducible refine Ex.seq ?_ | with_reducible refine Ex.set ?_ | with_reducible refine Ex.ret ?_ | with_reducible refine Ex.exp ?_ | with_reducible refine Ex.setOwn ?_ | with_reducible refine Ex.unpack ?_ | with_reducible refine Ex.par ?_ | with_reducible refine Ex.put ?_ | with_reducible refine Ex.app ?_ | with_reducible refine Ex.ext ?_ | with_reducible refine Ex.iff ?_ | with_reducible refine Ex.skip ?_ | with_reducible refine Ex.retN ?_ | with_reducible refine Ex.cont ?_ | with_reducible refine Ex.puts ?_ | with_reducible refine Ex.setA ?_ | with_reducible refine Ex.loop ?_
      | (with_reducible refine Ee.isv ?_; refine Ee.var rfl ?_)
      | with_reducible refine Ee.int ?_ | with_reducible refine Ee.bl ?_ | with_reducible refine Ee.str ?_ | with_reducible refine Ee.non ?_ | with_reducible refine Ee.tup ?_ | with_reducible refine Ee.lst ?_ | with_reducible refine Ee.bin ?_ | with_reducible refine Ee.neg ?_ | with_reducible refine Ee.cmp ?_ | with_reducible refine Ee.chain ?_ | with_reducible refine Ee.and ?_ | with_reducible refine Ee.or ?_ | with_reducible refine Ee.not ?_ | with_reducible refine Ee.ife ?_ | with_reducible refine Ee.sub ?_ | with_reducible refine Ee.slice ?_ | with_reducible refine Ee.rev ?_ | with_reducible refine Ee.sortset ?_ | with_reducible refine Ee.isi ?_ | with_reducible refine Ee.blt ?_ | with_reducible refine Ee.dct ?_ | with_reducible refine Ee.dnewT ?_ | with_reducible refine Ee.dnewK ?_
      | with_reducible refine El.cons ?_ | with_reducible refine El.nil ?_ | with_reducible refine Ep.nil ?_ | with_reducible refine Ep.val ?_ | with_reducible refine Ep.own ?_ | with_reducible refine Eo.no ?_ | with_reducible refine Eo.yes ?_ | with_reducible refine Eb.no ?_ | with_reducible refine Eb.yes ?_
      | with_reducible refine Ei.exv ?_ | with_reducible refine Ei.ex rfl ?_ | with_reducible refine Ei.rng1 ?_ | with_reducible refine Ei.rng2 ?_ | with_reducible refine Ei.enum ?_ | with_reducible refine Ei.zip ?_
      | with_reducible refine Aft.nx ?_ | with_reducible refine Aft.rt ?_ | with_reducible refine Aft.ct ?_ | with_reducible refine Trn.nx ?_ | with_reducible refine Trn.rt ?_ | with_reducible refine Trn.ct ?_ | with_reducible refine Fin.rt ?_ | with_reducible refine Fin.nx ?_
      | with_reducible refine Ts.mk ?_ | with_reducible refine Pt.mk ?_ | with_reducible refine exb ?_ | with_reducible refine exi ?_ | with_reducible refine exii ?_
      | with_reducible refine pr_add ?_ | with_reducible refine pr_sub ?_ | with_reducible refine pr_gt ?_ | with_reducible refine pr_le ?_ | with_reducible refine pr_ge ?_ | with_reducible refine pr_lt ?_ | with_reducible refine pr_lts ?_ | with_reducible refine pr_eqi ?_ | with_reducible refine pr_nei ?_ | with_reducible refine pr_eqs ?_ | with_reducible refine pr_nes ?_ | with_reducible refine pr_eqb ?_ | with_reducible refine pr_in ?_ | with_reducible refine pr_nin ?_
      | with_reducible refine pr_len_l ?_ | with_reducible refine pr_len_t ?_ | with_reducible refine pr_len_r ?_ | with_reducible refine pr_len_k ?_ | with_reducible refine pr_abs ?_ | with_reducible refine pr_max ?_ | with_reducible refine pr_min ?_ | with_reducible refine pr_int ?_ | with_reducible refine pr_intb ?_ | with_reducible refine pr_tup_l ?_ | with_reducible refine pr_list_l ?_ | with_reducible refine pr_list_t ?_ | with_reducible refine pr_sorted ?_ | with_reducible refine pr_repr ?_
      | with_reducible refine pr_items_l ?_ | with_reducible refine pr_items_t ?_ | with_reducible refine pr_keys_l ?_ | with_reducible refine pr_keys_t ?_ | with_reducible refine pr_keys_k ?_ | with_reducible refine pr_keys_kt ?_ | with_reducible refine pr_sl_l ?_ | with_reducible refine pr_sl_t ?_ | with_reducible refine pr_rev ?_ | with_reducible refine pr_bind1 ?_ | with_reducible refine pr_binds1 ?_
      | (with_reducible refine pr_cell (by assumption) ?_ ?_; exact rfl)
      | rw [sF_vals rfl]))
/-! ### nets are made of worlds -/
section
variable {Q : D → Store → Prop} {QB : Bool → Prop}
theorem isi_int {z : Int} : isiD (.int z) "int" = some true := by show (clsOf "int").map (fun s => isiB "int" s) = some true; decide +kernel
theorem isi_intb {z : Int} : isiD (.int z) "bool" = some false := by show (clsOf "bool").map (fun s => isiB "int" s) = some false; decide +kernel
theorem isi_str {s : Str} : isiD (.str s) "str" = some true := by show (clsOf "str").map (fun s => isiB "str" s) = some true; decide +kernel
theorem isi_tup {xs : List D} : isiD (.tup xs) "tuple" = some true := by show (clsOf "tuple").map (fun s => isiB "tuple" s) = some true; decide +kernel
end
def P_isint (m : FS) : Prop := ∀ (st : Store) (z : Int) (Q : D → Store → Prop), Q (.bl true) st → Cl m [.int z] st Q
theorem isint_ok {T : Tab} : P_isint (den T N_is_integer 1 c_is_integer) := by
  intro st z Q k
  refine Cl.den rfl (i_is_integer _) ?_
  unfold c_is_integer
  (repeat (first | exists run1 | refine Pr.of isi_int ?_ | refine Pr.of isi_intb ?_))
  refine ⟨fun _ => ?_, fun h => by cases h⟩
  (repeat (first | exists run1 | refine Pr.of isi_int ?_ | refine Pr.of isi_intb ?_))
  exact k
def P_isfrom (m : FS) : Prop := ∀ (st : Store) (z l : Int) (Q : D → Store → Prop), l ≤ z → Q (.bl true) st → Cl m [.int z, .int l] st Q
theorem isfrom_ok {T : Tab} (h1 : Has T "is_integer" P_isint) : P_isfrom (den T N_is_from 2 c_is_from) := by
  intro st z l Q hl k
  refine Cl.den rfl (i_is_from _ _) ?_
  unfold c_is_from
  (repeat (exists run1))
  refine Ee.callH h1 fun m hm => ?_
  (repeat (exists run1))
  refine hm _ _ _ ?_
  (repeat (exists run1))
  refine ⟨fun _ => ?_, fun h => by cases h⟩
  (repeat (exists run1))
  rw [decide_eq_true hl]
  exact k
def P_isname (m : FS) : Prop := ∀ (st : Store) (s : Str) (Q : D → Store → Prop), IsName s → Q (.bl true) st → Cl m [.str s] st Q
theorem bools_true {α : Type} : ∀ (l : List α), boolsOf (l.map fun _ => D.bl true) = some (l.map fun _ => true)
  | [] => rfl
  | x :: l => by rw [List.map_cons, boolsOf, bools_true l]; rfl
theorem all_true {α : Type} : ∀ (l : List α), (l.map fun _ => true).all id = true
  | [] => rfl
  | x :: l => by rw [List.map_cons, List.all_cons, all_true l]; rfl
theorem filter_true {α : Type} (l : List α) : l.filter (fun _ => true) = l := List.filter_eq_self.mpr fun _ _ => rfl
/-- all([f(x) for x in xs]), each true -/
theorem Ee.all_comp {T : Tab} {α : Type} {env : List (Option D)} {st : Store} {Q : D → Store → Prop} {el : CE} {tg : CT} {it : CI} {ifs : CO} {own : List Nat} (ys : List α) (g : α → D) (h : Ei T it env st fun xs s => xs = ys.map g ∧ (∀ y ∈ ys, Cp T el tg ifs own env (g y) s fun x s' => x = some (.bl true) ∧ s' = s) ∧ Q (.bl true) s) : Ee T (.blt "all" (.cons (.comp el tg it ifs own) .nil)) env st Q := by
  refine Ee.blt (El.cons (Ee.comp_map ys g (fun _ => true) (fun _ => .bl true) ?_))
  obtain ⟨xs, s, e, h1, h2, h3⟩ := h
  refine ⟨xs, s, e, h1, fun y hy => ?_, El.nil (pr_all (by rw [filter_true]; exact bools_true ys) (by rw [all_true]; exact h3))⟩
  exact h2 y hy
theorem isname_ok {T : Tab} (hc1 : T.con "LONGEST_NAME" = some (.int 8)) (hc2 : T.con "LETTERS" = some (.str alpha)) : P_isname (den T N_is_name 1 c_is_name) := by
  intro st s Q hs k
  have hl : s.length ≤ sizeLine := len_small hs.eight
  refine Cl.den rfl (i_is_name _) ?_
  unfold c_is_name
  (repeat (first | exists run1 | refine Pr.of isi_str ?_))
  refine ⟨fun _ => ?_, fun h => by cases h⟩
  (repeat (first | exists run1 | refine pr_len_s hl ?_))
  refine ⟨fun _ => ?_, fun h => ?_⟩
  · refine Ee.con hc1 ?_
    (repeat (exists run1))
    refine ⟨fun h => ?_, fun _ => ?_⟩
    · rw [Bool.not_eq_true'] at h
      exact absurd (show (s.length : Int) ≤ 8 by have := hs.eight; omega) (of_decide_eq_false h)
    · refine Ex.skip (Aft.nx (Ex.ret (Ee.all_comp s.cps.toList (fun c => .str ⟨#[c]⟩) ?_)))
      (repeat (first | exists run1 | refine pr_keys_s hl ?_))
      refine ⟨rfl, fun c hcc => ?_, Fin.rt k⟩
      unfold Cp
      (repeat (exists run1))
      refine ⟨fun _ => ?_, fun h => by cases h⟩
      (repeat (exists run1))
      refine Ee.con hc2 ?_
      (repeat (exists run1))
      have hin : c ∈ alpha.cps.toList := by
        obtain ⟨l1, l2⟩ := hs.lets c hcc
        rw [alpha_cps]
        exact List.mem_map.mpr ⟨c - 97, List.mem_range.mpr (by omega), by omega⟩
      refine Pr.of (d := true) ?_ ⟨rfl, rfl⟩
      show some (decide (c ∈ alpha.cps.toList)) = _
      rw [decide_eq_true hin]
  · exact absurd (show (1 : Int) ≤ s.length by have := hs.one; omega) (of_decide_eq_false h)
def P_isone (m : FS) : Prop := ∀ (st : Store) (s : Str) (rs : List Str) (Q : D → Store → Prop), (∀ r ∈ rs, IsName r) → s ∈ rs → Q (.bl true) st → Cl m [.str s, .tup (rs.map D.str)] st Q
theorem flats_str (rs : List Str) : (rs.map D.str).all isFlat = true := by
  rw [List.all_eq_true]
  intro d hd
  obtain ⟨s, _, rfl⟩ := List.mem_map.mp hd
  rfl
theorem pl_strs {rs : List Str} (h : ∀ r ∈ rs, IsName r) : plL (rs.map D.str) = true := plL_all.mpr fun d hd => by
  obtain ⟨s, hs, rfl⟩ := List.mem_map.mp hd
  exact name_ok (h s hs)
theorem str_mem {s : Str} {rs : List Str} : D.str s ∈ rs.map D.str ↔ s ∈ rs := by
  constructor
  · intro h
    obtain ⟨q, hq, e⟩ := List.mem_map.mp h
    cases e; exact hq
  · intro h
    exact List.mem_map.mpr ⟨s, h, rfl⟩
theorem isone_ok {T : Tab} : P_isone (den T N_is_one_of 2 c_is_one_of) := by
  intro st s rs Q hn hs k
  refine Cl.den rfl (i_is_one_of _ _) ?_
  unfold c_is_one_of
  (repeat (first | exists run1 | refine Pr.of isi_str ?_))
  refine ⟨fun _ => ?_, fun h => by cases h⟩
  (repeat (exists run1))
  refine pr_intup rfl (flats_str rs) (name_ok (hn s hs)) (pl_strs hn) fun cc hcc => ?_
  rw [hcc.mpr (str_mem.mpr hs)]
  exact Fin.rt k
def P_tupof (m : FS) : Prop := ∀ (st : Store) (xs : List D) (n : Int) (Q : D → Store → Prop), Q (.bl ((xs.length : Int) == n)) st → Cl m [.tup xs, .int n] st Q
theorem tupof_ok {T : Tab} : P_tupof (den T N_is_tuple_of 2 c_is_tuple_of) := by
  intro st xs n Q k
  refine Cl.den rfl (i_is_tuple_of _ _) ?_
  unfold c_is_tuple_of
  (repeat (first | exists run1 | refine Pr.of isi_tup ?_))
  refine ⟨fun _ => ?_, fun h => by cases h⟩
  (repeat (exists run1))
  exact k
def P_tupto (m : FS) : Prop := ∀ (st : Store) (xs : List D) (n : Int) (Q : D → Store → Prop), Q (.bl (decide ((xs.length : Int) ≤ n))) st → Cl m [.tup xs, .int n] st Q
theorem tupto_ok {T : Tab} : P_tupto (den T N_is_tuple_to 2 c_is_tuple_to) := by
  intro st xs n Q k
  refine Cl.den rfl (i_is_tuple_to _ _) ?_
  unfold c_is_tuple_to
  (repeat (first | exists run1 | refine Pr.of isi_tup ?_))
  refine ⟨fun _ => ?_, fun h => by cases h⟩
  (repeat (exists run1))
  exact k
structure P_asc (m : FS) : Prop where
  sa : ∀ (st : Store) (rs : List Str) (Q : D → Store → Prop), rs.Pairwise SLt → Q (.bl true) st → Cl m [.tup (rs.map D.str)] st Q
  pa : ∀ (st : Store) (ps : List (Str × Str)) (Q : D → Store → Prop), ps.Pairwise (fun a b => SLt a.1 b.1 ∨ (a.1 = b.1 ∧ SLt a.2 b.2)) → Q (.bl true) st → Cl m [.lst (ps.map pairD)] st Q
theorem dataLt_pr {a b : Str × Str} (h : SLt a.1 b.1 ∨ (a.1 = b.1 ∧ SLt a.2 b.2)) : ltD (pairD a) (pairD b) = some true := by
  have e : ltD (pairD a) (pairD b) = some (PySem.W.dataLt (.tuple [.str a.1, .str a.2]) (.tuple [.str b.1, .str b.2])) := rfl
  rw [e, PySem.W.dataLt_pair rfl rfl, dataLt_str, dataLt_str]
  rcases h with h | ⟨h1, h2⟩
  · rw [if_neg (by simp [PyData.eqv, h.ne]), decide_eq_true h]
  · rw [if_pos (by simp [PyData.eqv, h1]), if_neg (by simp [PyData.eqv, h2.ne]), decide_eq_true h2]
theorem zip_tail {α : Type} {R : α → α → Prop} : ∀ {l : List α}, l.Pairwise R → ∀ p ∈ l.zip (l.drop 1), R p.1 p.2
  | [], _, p, h => by simp at h
  | [x], _, p, h => by simp at h
  | x :: y :: l, hp, p, h => by
    rw [List.pairwise_cons] at hp
    rw [show (x :: y :: l).drop 1 = y :: l from rfl, List.zip_cons_cons] at h
    rcases List.mem_cons.mp h with rfl | h
    · exact hp.1 y (List.mem_cons_self ..)
    · exact zip_tail hp.2 p h
theorem zip_map2 {α : Type} (f : α → D) (l m : List α) : zipDD (l.map f) (m.map f) = (l.zip m).map fun p => .tup [f p.1, f p.2] := by
  unfold zipDD
  rw [List.zip_map, List.map_map]
  rfl
theorem asc_ok {T : Tab} : P_asc (den T N_are_ascending 1 c_are_ascending) := by
  constructor
  · intro st rs Q hp k
    refine Cl.den rfl (i_are_ascending _) ?_
    unfold c_are_ascending
    refine Ex.ret (Ee.all_comp (rs.zip (rs.drop 1)) (fun p => .tup [.str p.1, .str p.2]) ?_)
    (repeat (exists run1))
    refine ⟨_, _, .inr ⟨rfl, rfl⟩, ?_⟩
    rw [show (1 : Int) = ((1 : Nat) : Int) from rfl, cut_from, ← List.map_drop, zip_map2]
    refine ⟨rfl, fun p hpp => ?_, Fin.rt k⟩
    unfold Cp
    refine pr_bindn rfl ?_
    (repeat (exists run1))
    refine ⟨fun _ => ?_, fun h => by cases h⟩
    (repeat (exists run1))
    rw [decide_eq_true (show p.1.cps.toList < p.2.cps.toList from zip_tail hp p hpp)]
    exact ⟨rfl, rfl⟩
  · intro st ps Q hp k
    refine Cl.den rfl (i_are_ascending _) ?_
    unfold c_are_ascending
    refine Ex.ret (Ee.all_comp (ps.zip (ps.drop 1)) (fun p => .tup [pairD p.1, pairD p.2]) ?_)
    (repeat (exists run1))
    refine ⟨_, _, .inl ⟨rfl, rfl⟩, ?_⟩
    rw [show (1 : Int) = ((1 : Nat) : Int) from rfl, cut_from, ← List.map_drop, zip_map2]
    refine ⟨rfl, fun p hpp => ?_, Fin.rt k⟩
    unfold Cp
    refine pr_bindn rfl ?_
    (repeat (exists run1))
    refine ⟨fun _ => ?_, fun h => by cases h⟩
    (repeat (exists run1))
    exact Pr.of (dataLt_pr (zip_tail hp p hpp)) ⟨rfl, rfl⟩
def P_ascof (m : FS) : Prop := ∀ (st : Store) (ss rs : List Str) (Q : D → Store → Prop), (∀ r ∈ rs, IsName r) → (∀ s ∈ ss, s ∈ rs) → ss.Pairwise SLt → Q (.bl true) st → Cl m [.tup (ss.map D.str), .tup (rs.map D.str)] st Q
theorem ascof_ok {T : Tab} (h1 : Has T "is_one_of" P_isone) (h2 : Has T "are_ascending" P_asc) : P_ascof (den T N_is_ascending_of 2 c_is_ascending_of) := by
  intro st ss rs Q hn hs hp k
  refine Cl.den rfl (i_is_ascending_of _ _) ?_
  unfold c_is_ascending_of
  refine Ex.ret (Ee.and ?_)
  (repeat (first | exists run1 | refine Pr.of isi_tup ?_))
  refine ⟨fun _ => ?_, fun h => by cases h⟩
  refine Ee.and (Ee.all_comp ss D.str ?_)
  (repeat (exists run1))
  refine ⟨rfl, fun s hss => ?_, exb ⟨fun _ => ?_, fun h => by cases h⟩⟩
  · unfold Cp
    (repeat (exists run1))
    refine ⟨fun _ => ?_, fun h => by cases h⟩
    refine Ee.callH h1 fun m hm => ?_
    (repeat (exists run1))
    exact hm _ _ _ _ hn (hs s hss) ⟨rfl, rfl⟩
  · refine Ee.callH h2 fun m hm => ?_
    (repeat (exists run1))
    exact hm.sa _ _ _ hp (Fin.rt k)
def P_arerouters (m : FS) : Prop := ∀ (st : Store) (B : Int) (rs : List Str) (ls : List Lk) (Q : D → Store → Prop), IsW B rs ls → Q (.bl true) st → Cl m [rsD rs] st Q
theorem arerouters_ok {T : Tab} (h1 : Has T "is_tuple_to" P_tupto) (h2 : Has T "is_name" P_isname) (h3 : Has T "are_ascending" P_asc) (hc1 : T.con "MOST_ROUTERS" = some (.int 8)) (hc2 : T.con "FEWEST_ROUTERS" = some (.int 2)) : P_arerouters (den T N_are_routers 1 c_are_routers) := by
  intro st B rs ls Q w k
  refine Cl.den rfl (i_are_routers _) ?_
  unfold c_are_routers
  (repeat (exists run1))
  refine Ee.callH h1 fun m hm => ?_
  (repeat (exists run1))
  refine Ee.con hc1 (El.nil (hm _ _ _ _ ?_))
  have l8 : ((rs.map D.str).length : Int) ≤ 8 := by rw [List.length_map]; have := w.eight; omega
  have l2 : ¬ ((rs.map D.str).length : Int) < 2 := by rw [List.length_map]; have := w.two; omega
  rw [decide_eq_true l8]
  (repeat (exists run1))
  refine ⟨fun _ => ?_, fun h => by cases h⟩
  unfold rsD
  (repeat (exists run1))
  refine Ee.con hc2 ?_
  (repeat (exists run1))
  rw [decide_eq_false l2]
  refine ⟨fun h => (by cases h), fun _ => ?_⟩
  refine Ex.skip (Aft.nx (Ex.ret (Ee.and (Ee.all_comp rs D.str ?_))))
  (repeat (exists run1))
  refine ⟨rfl, fun s hss => ?_, exb ⟨fun _ => ?_, fun h => by cases h⟩⟩
  · unfold Cp
    (repeat (exists run1))
    refine ⟨fun _ => ?_, fun h => by cases h⟩
    refine Ee.callH h2 fun m hm => ?_
    (repeat (exists run1))
    exact hm _ _ _ (w.names s hss) ⟨rfl, rfl⟩
  · refine Ee.callH h3 fun m hm => ?_
    (repeat (exists run1))
    exact hm.sa _ _ _ w.asc (Fin.rt k)
def P_islink (m : FS) : Prop := ∀ (st : Store) (rs : List Str) (l : Lk) (Q : D → Store → Prop), (∀ r ∈ rs, IsName r) → GoodP rs (l.1, l.2.1) → 1 ≤ l.2.2.1 → 1 ≤ l.2.2.2 → Q (.bl true) st → Cl m [lkD l, rsD rs] st Q
theorem islink_ok {T : Tab} (h1 : Has T "is_tuple_of" P_tupof) (h2 : Has T "is_ascending_of" P_ascof) (h3 : Has T "is_from" P_isfrom) (hc1 : T.con "LINK" = some (.int 4)) : P_islink (den T N_is_link 2 c_is_link) := by
  intro st rs l Q hn hg a1 a2 k
  refine Cl.den rfl (i_is_link _ _) ?_
  unfold c_is_link lkD rsD
  (repeat (exists run1))
  refine Ee.callH h1 fun m hm => ?_
  (repeat (exists run1))
  refine Ee.con hc1 (El.nil (hm _ _ _ _ ?_))
  (repeat (exists run1))
  refine ⟨fun _ => ?_, fun h => by cases h⟩
  (repeat (exists run1))
  refine Ee.callH h2 fun m2 hm2 => ?_
  (repeat (exists run1))
  refine hm2 _ [l.1, l.2.1] rs _ hn (fun s hs => ?_) ?_ ?_
  · simp only [List.mem_cons, List.not_mem_nil, or_false] at hs
    rcases hs with rfl | rfl
    · exact hg.1
    · exact hg.2.1
  · rw [List.pairwise_cons]
    exact ⟨fun x hx => by simp only [List.mem_cons, List.not_mem_nil, or_false] at hx; subst hx; exact hg.2.2, List.pairwise_singleton _ _⟩
  (repeat (exists run1))
  refine ⟨fun h => (by cases h), fun _ => ?_⟩
  (repeat (exists run1))
  refine Ee.callH h3 fun m3 hm3 => ?_
  (repeat (first | exists run1 | refine pr_subt rfl ?_))
  refine hm3 _ _ _ _ a1 ?_
  (repeat (exists run1))
  refine ⟨fun _ => ?_, fun h => by cases h⟩
  refine Ee.callH h3 fun m4 hm4 => ?_
  (repeat (first | exists run1 | refine pr_subt rfl ?_))
  exact hm4 _ _ _ _ a2 (Fin.rt k)
def P_arelinks (m : FS) : Prop := ∀ (st : Store) (B : Int) (rs : List Str) (ls : List Lk) (Q : D → Store → Prop), IsW B rs ls → Q (.bl true) st → Cl m [lsD ls, rsD rs] st Q
theorem arelinks_ok {T : Tab} (h1 : Has T "is_tuple_to" P_tupto) (h2 : Has T "is_link" P_islink) (h3 : Has T "are_ascending" P_asc) (hc1 : T.con "MOST_LINKS" = some (.int 16)) : P_arelinks (den T N_are_links 2 c_are_links) := by
  intro st B rs ls Q w k
  refine Cl.den rfl (i_are_links _ _) ?_
  unfold c_are_links lsD
  (repeat (exists run1))
  refine Ee.callH h1 fun m hm => ?_
  (repeat (exists run1))
  refine Ee.con hc1 (El.nil (hm _ _ _ _ ?_))
  have l8 : ((ls.map lkD).length : Int) ≤ 16 := by rw [List.length_map]; have := w.few; omega
  rw [decide_eq_true l8]
  (repeat (exists run1))
  refine ⟨fun _ => ?_, fun h => by cases h⟩
  refine Ee.not (Ee.all_comp ls lkD ?_)
  (repeat (exists run1))
  refine ⟨rfl, fun l hl => ?_, exb (exb ⟨fun h => (by cases h), fun _ => ?_⟩)⟩
  · unfold Cp
    (repeat (exists run1))
    refine ⟨fun _ => ?_, fun h => by cases h⟩
    refine Ee.callH h2 fun m hm => ?_
    (repeat (exists run1))
    obtain ⟨g, b1, _, b2, _⟩ := w.lk l hl
    exact hm _ rs l _ w.names g b1 b2 ⟨rfl, rfl⟩
  · refine Ex.skip (Aft.nx (Ex.ret (Ee.callH h3 fun m hm => ?_)))
    refine El.cons (Ee.comp_map ls lkD (fun _ => true) (fun l => pairD (l.1, l.2.1)) ?_)
    (repeat (exists run1))
    refine ⟨rfl, fun l hl => ?_, El.nil ?_⟩
    · unfold Cp
      (repeat (exists run1))
      refine ⟨fun _ => ?_, fun h => by cases h⟩
      unfold lkD
      (repeat (exists run1))
      exact ⟨rfl, rfl⟩
    · rw [filter_true, show ls.map (fun l => pairD (l.1, l.2.1)) = (ls.map fun l => (l.1, l.2.1)).map pairD by rw [List.map_map]; rfl]
      refine hm.pa _ _ _ ?_ (Fin.rt k)
      rw [List.pairwise_map]
      exact w.lasc
/-! ### Net -/
def netD (rs : List Str) (ls : List Lk) : D := .obj "Net" ["own_routers", "own_links"] [rsD rs, lsD ls]
def P_net (m : FS) : Prop := ∀ (st : Store) (B : Int) (rs : List Str) (ls : List Lk) (Q : D → Store → Prop), IsW B rs ls → Q (netD rs ls) st → Cl m [rsD rs, lsD ls] st Q
theorem net_ok {T : Tab} (h1 : Has T "are_routers" P_arerouters) (h2 : Has T "are_links" P_arelinks) (hf1 : ("own_routers" : Str) ∈ T.fld "Net") (hf2 : ("own_links" : Str) ∈ T.fld "Net") : P_net (denC T N_Net____init__ 3 "Net" c_Net____init__) := by
  intro st B rs ls Q w k
  have run : ∀ q : Addr, Ex T c_Net____init__ (iniO N_Net____init__ q "Net" [rsD rs, lsD ls]) st fun r => r.1 = .nx ∧ r.2.1[0]? = some (.own (.inst q "Net" ["own_routers", "own_links"] [rsD rs, lsD ls])) ∧ r.2.2 = st := by
    intro q
    rw [i_Net____init__]
    unfold c_Net____init__
    (repeat (exists run1))
    refine Ee.callH h1 fun m hm => ?_
    (repeat (exists run1))
    refine hm _ B rs ls _ w ?_
    (repeat (exists run1))
    refine ⟨fun _ => ?_, fun h => (by cases h)⟩
    (repeat (exists run1))
    refine Ee.callH h2 fun m hm => ?_
    (repeat (exists run1))
    refine hm _ B rs ls _ w ?_
    (repeat (exists run1))
    refine ⟨fun h => (by cases h), fun _ => ?_⟩
    (repeat (exists run1))
    refine ⟨_, _, _, _, rfl, ⟨hf1, List.not_mem_nil, by decide⟩, ?_⟩
    (repeat (exists run1))
    refine ⟨_, _, _, _, rfl, ⟨hf2, by decide +kernel, by decide⟩, ?_⟩
    exact ⟨rfl, rfl, rfl⟩
  obtain ⟨n, _, _, _⟩ := run 0
  refine ⟨netD rs ls, st, ?_, k⟩
  -- one fuel for all addresses
  have mk : MakesTo T 0 c_Net____init__ N_Net____init__ "Net" [rsD rs, lsD ls] st ["own_routers", "own_links"] [rsD rs, lsD ls] st := by
    intro q
    obtain ⟨n, ⟨f, e, s⟩, h, h3, h4, h5⟩ := run q
    dsimp only at h3 h4 h5
    subst h3 h5
    exact ⟨e, noWhile (by decide) h, h4⟩
  exact denC_makes rfl mk
end Q

set_option Elab.async false
set_option linter.all false
set_option maxRecDepth 100000
set_option maxHeartbeats 1000000
namespace Q
open PySem PySem.Spec PyProof.Rows L2
local macro_rules
  | `(tactic| exists run1) => `(tactic| (first
      | with_reducible refine Ex.seq ?_ | with_reducible refine Ex.set ?_ | with_reducible refine Ex.ret ?_ | with_reducible refine Ex.exp ?_ | with_reducible refine Ex.setOwn ?_ | with_reducible refine Ex.unpack ?_ | with_reducible refine Ex.par ?_ | with_reducible refine Ex.put ?_ | with_reducible refine Ex.app ?_ | with_reducible refine Ex.ext ?_ | with_reducible refine Ex.iff ?_ | with_reducible refine Ex.skip ?_ | with_reducible refine Ex.retN ?_ | with_reducible refine Ex.cont ?_ | with_reducible refine Ex.puts ?_ | with_reducible refine Ex.setA ?_ | with_reducible refine Ex.loop ?_
      | (with_reducible refine Ee.isv ?_; refine Ee.var rfl ?_)
      | with_reducible refine Ee.int ?_ | with_reducible refine Ee.bl ?_ | with_reducible refine Ee.str ?_ | with_reducible refine Ee.non ?_ | with_reducible refine Ee.tup ?_ | with_reducible refine Ee.lst ?_ | with_reducible refine Ee.bin ?_ | with_reducible refine Ee.neg ?_ | with_reducible refine Ee.cmp ?_ | with_reducible refine Ee.chain ?_ | with_reducible refine Ee.and ?_ | with_reducible refine Ee.or ?_ | with_reducible refine Ee.not ?_ | with_reducible refine Ee.ife ?_ | with_reducible refine Ee.sub ?_ | with_reducible refine Ee.slice ?_ | with_reducible refine Ee.rev ?_ | with_reducible refine Ee.sortset ?_ | with_reducible refine Ee.isi ?_ | with_reducible refine Ee.blt ?_ | with_reducible refine Ee.dct ?_ | with_reducible refine Ee.dnewT ?_ | with_reducible refine Ee.dnewK ?_
      | with_reducible refine El.cons ?_ | with_reducible refine El.nil ?_ | with_reducible refine Ep.nil ?_ | with_reducible refine Ep.val ?_ | with_reducible refine Ep.own ?_ | with_reducible refine Eo.no ?_ | with_reducible refine Eo.yes ?_ | with_reducible refine Eb.no ?_ | with_reducible refine Eb.yes ?_
      | with_reducible refine Ei.exv ?_ | with_reducible refine Ei.ex rfl ?_ | with_reducible refine Ei.rng1 ?_ | with_reducible refine Ei.rng2 ?_ | with_reducible refine Ei.enum ?_ | with_reducible refine Ei.zip ?_
      | with_reducible refine Aft.nx ?_ | with_reducible refine Aft.rt ?_ | with_reducible refine Aft.ct ?_ | with_reducible refine Trn.nx ?_ | with_reducible refine Trn.rt ?_ | with_reducible refine Trn.ct ?_ | with_reducible refine Fin.rt ?_ | with_reducible refine Fin.nx ?_
      | with_reducible refine Ts.mk ?_ | with_reducible refine Pt.mk ?_ | with_reducible refine exb ?_ | with_reducible refine exi ?_ | with_reducible refine exii ?_
      | with_reducible refine pr_add ?_ | with_reducible refine pr_sub ?_ | with_reducible refine pr_gt ?_ | with_reducible refine pr_le ?_ | with_reducible refine pr_ge ?_ | with_reducible refine pr_lt ?_ | with_reducible refine pr_lts ?_ | with_reducible refine pr_eqi ?_ | with_reducible refine pr_nei ?_ | with_reducible refine pr_eqs ?_ | with_reducible refine pr_nes ?_ | with_reducible refine pr_eqb ?_ | with_reducible refine pr_in ?_ | with_reducible refine pr_nin ?_
      | with_reducible refine pr_len_l ?_ | with_reducible refine pr_len_t ?_ | with_reducible refine pr_len_r ?_ | with_reducible refine pr_len_k ?_ | with_reducible refine pr_abs ?_ | with_reducible refine pr_max ?_ | with_reducible refine pr_min ?_ | with_reducible refine pr_int ?_ | with_reducible refine pr_intb ?_ | with_reducible refine pr_tup_l ?_ | with_reducible refine pr_list_l ?_ | with_reducible refine pr_list_t ?_ | with_reducible refine pr_sorted ?_ | with_reducible refine pr_repr ?_
      | with_reducible refine pr_items_l ?_ | with_reducible refine pr_items_t ?_ | with_reducible refine pr_keys_l ?_ | with_reducible refine pr_keys_t ?_ | with_reducible refine pr_keys_k ?_ | with_reducible refine pr_keys_kt ?_ | with_reducible refine pr_sl_l ?_ | with_reducible refine pr_sl_t ?_ | with_reducible refine pr_rev ?_ | with_reducible refine pr_bind1 ?_ | with_reducible refine pr_binds1 ?_
      | (with_reducible refine pr_cell (by assumption) ?_ ?_; exact rfl)
      | rw [sF_vals rfl]))
/-! ### dicts as lists of pairs -/
def aget {κ α : Type} [DecidableEq κ] : List (κ × α) → κ → Option α
  | [], _ => none
  | p :: r, x => if p.1 = x then some p.2 else aget r x
def aput {κ α : Type} [DecidableEq κ] (al : List (κ × α)) (k : κ) (v : α) : List (κ × α) := if k ∈ al.map (·.1) then al.map fun p => if p.1 = k then (k, v) else p else al ++ [(k, v)]
section
variable {κ κ' α : Type} [DecidableEq κ] [DecidableEq κ']
theorem aget_none {al : List (κ × α)} {k : κ} : aget al k = none ↔ k ∉ al.map (·.1) := by
  induction al with
  | nil => simp [aget]
  | cons p r ih =>
    unfold aget
    by_cases h : p.1 = k
    · rw [if_pos h]; simp [h]
    · rw [if_neg h, ih]; simp [Ne.symm h]
theorem aget_mem {al : List (κ × α)} {k : κ} {v : α} (h : aget al k = some v) : (k, v) ∈ al := by
  induction al with
  | nil => cases h
  | cons p r ih =>
    unfold aget at h
    split at h
    · rename_i e
      cases h
      rw [← e]
      exact List.mem_cons_self ..
    · exact List.mem_cons_of_mem _ (ih h)
theorem aget_of {al : List (κ × α)} (nd : (al.map (·.1)).Nodup) {p : κ × α} (h : p ∈ al) : aget al p.1 = some p.2 := by
  induction al with
  | nil => exact absurd h List.not_mem_nil
  | cons q r ih =>
    rw [List.map_cons, List.nodup_cons] at nd
    unfold aget
    rcases List.mem_cons.mp h with rfl | h
    · rw [if_pos rfl]
    · rw [if_neg]
      · exact ih nd.2 h
      · intro e
        exact nd.1 (List.mem_map.mpr ⟨p, h, e.symm⟩)
theorem aget_append {al bl : List (κ × α)} {k : κ} : aget (al ++ bl) k = (aget al k).or (aget bl k) := by
  induction al with
  | nil => rfl
  | cons p r ih =>
    show (if p.1 = k then some p.2 else aget (r ++ bl) k) = Option.or (if p.1 = k then some p.2 else aget r k) (aget bl k)
    by_cases h : p.1 = k
    · rw [if_pos h, if_pos h]; rfl
    · rw [if_neg h, if_neg h, ih]
theorem aget_put {al : List (κ × α)} {k x : κ} {v : α} : aget (aput al k v) x = if k = x then some v else aget al x := by
  unfold aput
  by_cases hm : k ∈ al.map (·.1)
  · rw [if_pos hm]
    by_cases hx : k = x
    · subst hx
      rw [if_pos rfl]
      induction al with
      | nil => exact absurd hm (by simp)
      | cons p r ih =>
        rw [List.map_cons]
        unfold aget
        by_cases hp : p.1 = k
        · rw [if_pos hp, if_pos rfl]
        · rw [if_neg hp, if_neg hp]
          refine ih ?_
          rw [List.map_cons, List.mem_cons] at hm
          rcases hm with e | e
          · exact absurd e.symm hp
          · exact e
    · rw [if_neg hx]
      clear hm
      induction al with
      | nil => rfl
      | cons p r ih =>
        rw [List.map_cons]
        unfold aget
        by_cases hp : p.1 = k
        · rw [if_pos hp, if_neg hx, ih, if_neg (fun e => hx (hp.symm.trans e))]
        · rw [if_neg hp, ih]
  · rw [if_neg hm, aget_append]
    by_cases hx : k = x
    · subst hx
      rw [if_pos rfl, aget_none.mpr hm]
      show aget [(k, v)] k = some v
      unfold aget
      rw [if_pos rfl]
    · rw [if_neg hx]
      have : aget [(k, v)] x = none := by unfold aget; rw [if_neg hx]; rfl
      rw [this, Option.or_none]
theorem keys_put {al : List (κ × α)} {k : κ} {v : α} : (aput al k v).map (·.1) = if k ∈ al.map (·.1) then al.map (·.1) else al.map (·.1) ++ [k] := by
  unfold aput
  split
  · rw [List.map_map]
    refine List.map_congr_left fun p _ => ?_
    show (if p.1 = k then (k, v) else p).1 = p.1
    split
    · rename_i e; exact e.symm
    · rfl
  · rw [List.map_append]; rfl
theorem aput_len {al : List (κ × α)} {k : κ} {v : α} : (aput al k v).length ≤ al.length + 1 := by
  unfold aput
  split
  · rw [List.length_map]; omega
  · rw [List.length_append]; exact Nat.le_refl _
theorem valD_map (kf : κ → κ') (inj : ∀ a b, kf a = kf b → a = b) (vf : α → D) (k : κ) : ∀ (al : List (κ × α)), valD (al.map fun p => kf p.1) (al.map fun p => vf p.2) (kf k) = (aget al k).map vf
  | [] => rfl
  | p :: r => by
    rw [List.map_cons, List.map_cons]
    unfold valD aget
    by_cases h : p.1 = k
    · rw [if_pos h, if_pos (by rw [h])]; rfl
    · rw [if_neg h, if_neg (fun e => h (inj _ _ e)), valD_map kf inj vf k r]
theorem mem_kf (kf : κ → κ') (inj : ∀ a b, kf a = kf b → a = b) {k : κ} {al : List (κ × α)} : kf k ∈ al.map (fun p => kf p.1) ↔ k ∈ al.map (·.1) := by
  constructor
  · intro h
    obtain ⟨p, hp, e⟩ := List.mem_map.mp h
    exact List.mem_map.mpr ⟨p, hp, inj _ _ e⟩
  · intro h
    obtain ⟨p, hp, e⟩ := List.mem_map.mp h
    exact List.mem_map.mpr ⟨p, hp, by rw [← e]⟩
theorem putKs_map (kf : κ → κ') (inj : ∀ a b, kf a = kf b → a = b) (k : κ) (v : α) (al : List (κ × α)) : putKs (al.map fun p => kf p.1) (kf k) = (aput al k v).map fun p => kf p.1 := by
  unfold putKs aput
  by_cases h : k ∈ al.map (·.1)
  · rw [if_pos h, if_pos ((mem_kf kf inj).mpr h), List.map_map]
    refine List.map_congr_left fun p _ => ?_
    show kf p.1 = kf (if p.1 = k then (k, v) else p).1
    split
    · rename_i e; rw [e]
    · rfl
  · rw [if_neg h, if_neg (fun z => h ((mem_kf kf inj).mp z)), List.map_append]; rfl
theorem putXs_map (kf : κ → κ') (inj : ∀ a b, kf a = kf b → a = b) (vf : α → D) (k : κ) (v : α) (al : List (κ × α)) : putXs (al.map fun p => kf p.1) (al.map fun p => vf p.2) (kf k) (vf v) = (aput al k v).map fun p => vf p.2 := by
  unfold putXs aput
  by_cases h : k ∈ al.map (·.1)
  · rw [if_pos h, if_pos ((mem_kf kf inj).mpr h), List.map_map]
    clear h
    induction al with
    | nil => rfl
    | cons p r ih =>
      rw [List.map_cons, List.map_cons, List.zipWith_cons_cons, ih, List.map_cons]
      congr 1
      show _ = vf (if p.1 = k then (k, v) else p).2
      by_cases hp : p.1 = k
      · rw [if_pos hp, if_pos (by rw [hp])]
      · rw [if_neg hp, if_neg (fun e => hp (inj _ _ e))]
  · rw [if_neg h, if_neg (fun z => h ((mem_kf kf inj).mp z)), List.map_append]; rfl
end
/-- a dict by texts; one by pairs of texts -/
def dS {α : Type} (vf : α → D) (al : List (Str × α)) : D := .dK (al.map fun p => Sum.inr p.1) (al.map fun p => vf p.2)
def pK (p : Str × Str) : List Key := [.inr p.1, .inr p.2]
def dP {α : Type} (vf : α → D) (al : List ((Str × Str) × α)) : D := .dT (al.map fun p => pK p.1) (al.map fun p => vf p.2)
theorem inr_inj : ∀ a b : Str, (Sum.inr a : Key) = Sum.inr b → a = b := fun a b e => by cases e; rfl
theorem pK_inj : ∀ a b : Str × Str, pK a = pK b → a = b := fun a b e => by
  obtain ⟨a1, a2⟩ := a
  obtain ⟨b1, b2⟩ := b
  simp only [pK, List.cons.injEq, Sum.inr.injEq, and_true] at e
  rw [e.1, e.2]
section
variable {α : Type} {vf : α → D} {al : List (Str × α)} {pl : List ((Str × Str) × α)} {s a b : Str} {Q : D → Prop} {QB : Bool → Prop} {st : Store}
theorem getD_S : getD (dS vf al) (.str s) = some ((aget al s).map vf) := by
  show some (valD _ _ (Sum.inr s)) = _
  rw [valD_map (κ' := Key) Sum.inr inr_inj]
theorem getD_P : getD (dP vf pl) (.tup [.str a, .str b]) = some ((aget pl (a, b)).map vf) := by
  show some (valD _ _ (pK (a, b))) = _
  rw [valD_map (κ' := List Key) pK pK_inj]
theorem pr_inS (h : QB (aget al s).isSome) : Pr (inD (.str s) (dS vf al)) QB := by
  refine ⟨_, ?_, h⟩
  show (getD (dS vf al) (.str s)).map Option.isSome = _
  rw [getD_S]
  cases aget al s <;> rfl
theorem pr_inP (h : QB (aget pl (a, b)).isSome) : Pr (inD (.tup [.str a, .str b]) (dP vf pl)) QB := by
  refine ⟨_, ?_, h⟩
  show (getD (dP vf pl) (.tup [.str a, .str b])).map Option.isSome = _
  rw [getD_P]
  cases aget pl (a, b) <;> rfl
theorem pr_subS {v : α} (e : aget al s = some v) (h : Q (vf v)) : Pr (subD st (dS vf al) (.str s)) Q := by
  refine ⟨_, ?_, h⟩
  show (getD (dS vf al) (.str s)).join = _
  rw [getD_S, e]; rfl
theorem pr_subP {v : α} (e : aget pl (a, b) = some v) (h : Q (vf v)) : Pr (subD st (dP vf pl) (.tup [.str a, .str b])) Q := by
  refine ⟨_, ?_, h⟩
  show (getD (dP vf pl) (.tup [.str a, .str b])).join = _
  rw [getD_P, e]; rfl
theorem pr_getS (h : Q (((aget al s).map vf).getD .non)) : Pr (methD "get" (dS vf al) [.str s]) Q := by
  refine ⟨_, ?_, h⟩
  unfold methD
  rw [if_pos rfl]
  show (getD (dS vf al) (.str s)).map _ = _
  rw [getD_S]; rfl
theorem pr_getS2 {x : D} (h : Q (((aget al s).map vf).getD x)) : Pr (methD "get" (dS vf al) [.str s, x]) Q := by
  refine ⟨_, ?_, h⟩
  unfold methD
  rw [if_pos rfl]
  show (getD (dS vf al) (.str s)).map _ = _
  rw [getD_S]; rfl
theorem pr_getP (h : Q (((aget pl (a, b)).map vf).getD .non)) : Pr (methD "get" (dP vf pl) [.tup [.str a, .str b]]) Q := by
  refine ⟨_, ?_, h⟩
  unfold methD
  rw [if_pos rfl]
  show (getD (dP vf pl) (.tup [.str a, .str b])).map _ = _
  rw [getD_P]; rfl
theorem pr_putS {i : Nat} {env : List Sl} {v : α} {QR : List Sl × Store → Prop} (h1 : env[i]? = some (.own (dS vf al))) (hl : al.length < sizeLine) (h : QR (env.set i (.own (dS vf (aput al s v))), st)) : Pr (putAt i (.str s) (vf v) env st) QR := by
  refine ⟨_, ?_, h⟩
  unfold putAt
  rw [h1]
  show (putD (dS vf al) (.str s) (vf v)).bind _ = _
  have e : putD (dS vf al) (.str s) (vf v) = some (dS vf (aput al s v)) := by
    show some (D.dK (putKs _ (Sum.inr s)) (putXs _ _ (Sum.inr s) (vf v))) = _
    rw [putKs_map (κ' := Key) Sum.inr inr_inj s v, putXs_map (κ' := Key) Sum.inr inr_inj]
    rfl
  rw [e, Option.bind_some, if_pos]
  show (al.map fun p => vf p.2).length < sizeLine
  rw [List.length_map]; exact hl
theorem pr_putP {i : Nat} {env : List Sl} {v : α} {QR : List Sl × Store → Prop} (h1 : env[i]? = some (.own (dP vf pl))) (hl : pl.length < sizeLine) (h : QR (env.set i (.own (dP vf (aput pl (a, b) v))), st)) : Pr (putAt i (.tup [.str a, .str b]) (vf v) env st) QR := by
  refine ⟨_, ?_, h⟩
  unfold putAt
  rw [h1]
  show (putD (dP vf pl) (.tup [.str a, .str b]) (vf v)).bind _ = _
  have e : putD (dP vf pl) (.tup [.str a, .str b]) (vf v) = some (dP vf (aput pl (a, b) v)) := by
    show some (D.dT (putKs _ (pK (a, b))) (putXs _ _ (pK (a, b)) (vf v))) = _
    rw [putKs_map (κ' := List Key) pK pK_inj (a, b) v, putXs_map (κ' := List Key) pK pK_inj]
    rfl
  rw [e, Option.bind_some, if_pos]
  show (pl.map fun p => vf p.2).length < sizeLine
  rw [List.length_map]; exact hl
theorem pr_keysS {QL : List D → Prop} (h : QL (al.map fun p => .str p.1)) : Pr (keysD (dS vf al)) QL := by
  refine ⟨_, ?_, h⟩
  show some ((al.map fun p => (Sum.inr p.1 : Key)).map keyD) = _
  rw [List.map_map]; rfl
theorem pr_keysP {QL : List D → Prop} (h : QL (pl.map fun p => pairD p.1)) : Pr (keysD (dP vf pl)) QL := by
  refine ⟨_, ?_, h⟩
  show some ((pl.map fun p => pK p.1).map fun k => D.tup (k.map keyD)) = _
  rw [List.map_map]; rfl
end
/-! ### lengths -/
abbrev Lens := List ((Str × Str) × Int)
def lensOf (ls : List Lk) : Lens := ls.flatMap fun l => [((l.1, l.2.1), l.2.2.1), ((l.2.1, l.1), l.2.2.2)]
def lD (ll : Lens) : D := dP D.int ll
def stepL (ll : Lens) (l : Lk) : Lens := aput (aput ll (l.1, l.2.1) l.2.2.1) (l.2.1, l.1) l.2.2.2
theorem lens_keys {B : Int} {rs : List Str} {ls : List Lk} (w : IsW B rs ls) : ((lensOf ls).map (·.1)).Nodup := by
  have h1 : ls.Pairwise PLt := w.lasc
  have h2 : ∀ l ∈ ls, SLt l.1 l.2.1 := fun l hl => (w.lk l hl).1.2.2
  clear w
  induction ls with
  | nil => exact List.nodup_nil
  | cons l ls ih =>
    rw [List.pairwise_cons] at h1
    have ih := ih h1.2 fun l hl => h2 l (List.mem_cons_of_mem _ hl)
    have hl := h2 l (List.mem_cons_self ..)
    have mem : ∀ k ∈ (lensOf ls).map (·.1), ∃ l' ∈ ls, k = (l'.1, l'.2.1) ∨ k = (l'.2.1, l'.1) := fun k hk => by
      obtain ⟨p, hp, rfl⟩ := List.mem_map.mp hk
      unfold lensOf at hp
      rw [List.mem_flatMap] at hp
      obtain ⟨l', hl', hp⟩ := hp
      simp only [List.mem_cons, List.not_mem_nil, or_false] at hp
      rcases hp with rfl | rfl
      · exact ⟨l', hl', .inl rfl⟩
      · exact ⟨l', hl', .inr rfl⟩
    have apart : ∀ l' ∈ ls, (l.1, l.2.1) ≠ (l'.1, l'.2.1) ∧ (l.1, l.2.1) ≠ (l'.2.1, l'.1) := fun l' hl' => by
      have hp := h1.1 l' hl'
      have hs := h2 l' (List.mem_cons_of_mem _ hl')
      constructor
      · intro e
        cases Prod.ext_iff.mp e with | intro e1 e2 => exact (hp.elim (fun h => h.ne e1) fun h => h.2.ne e2)
      · intro e
        cases Prod.ext_iff.mp e with | intro e1 e2 =>
          dsimp only at e1 e2
          rw [e1, e2] at hl
          exact hl.asymm hs
    show (((l.1, l.2.1), l.2.2.1) :: ((l.2.1, l.1), l.2.2.2) :: lensOf ls |>.map (·.1)).Nodup
    rw [List.map_cons, List.map_cons, List.nodup_cons, List.nodup_cons]
    refine ⟨fun h => ?_, fun h => ?_, ih⟩
    · rcases List.mem_cons.mp h with e | h
      · cases Prod.ext_iff.mp e with | intro e1 e2 => exact hl.ne e1
      · obtain ⟨l', hl', e | e⟩ := mem _ h
        · exact (apart l' hl').1 e
        · exact (apart l' hl').2 e
    · obtain ⟨l', hl', e | e⟩ := mem _ h
      · exact (apart l' hl').2 (by cases Prod.ext_iff.mp e with | intro e1 e2 => exact Prod.ext e2 e1)
      · exact (apart l' hl').1 (by cases Prod.ext_iff.mp e with | intro e1 e2 => exact Prod.ext e2 e1)
theorem aput_new {κ α : Type} [DecidableEq κ] {al : List (κ × α)} {k : κ} {v : α} (h : k ∉ al.map (·.1)) : aput al k v = al ++ [(k, v)] := by unfold aput; rw [if_neg h]
theorem lens_fold : ∀ (ls : List Lk) (ll : Lens), ((ll ++ lensOf ls).map (·.1)).Nodup → ls.foldl stepL ll = ll ++ lensOf ls
  | [], ll, _ => by simp [lensOf]
  | l :: ls, ll, h => by
    have e : ll ++ lensOf (l :: ls) = (ll ++ [((l.1, l.2.1), l.2.2.1)] ++ [((l.2.1, l.1), l.2.2.2)]) ++ lensOf ls := by simp [lensOf]
    rw [e] at h ⊢
    have h1 : ((ll ++ [((l.1, l.2.1), l.2.2.1)] ++ [((l.2.1, l.1), l.2.2.2)]).map (·.1)).Nodup := by
      rw [List.map_append] at h
      exact (List.nodup_append.mp h).1
    have h2 : ((ll ++ [((l.1, l.2.1), l.2.2.1)]).map (·.1)).Nodup := by
      rw [List.map_append] at h1
      exact (List.nodup_append.mp h1).1
    have n1 : (l.1, l.2.1) ∉ ll.map (·.1) := fun hm => by
      rw [List.map_append] at h2
      exact (List.nodup_append.mp h2).2.2 _ hm _ (List.mem_cons_self ..) rfl
    have n2 : (l.2.1, l.1) ∉ (ll ++ [((l.1, l.2.1), l.2.2.1)]).map (·.1) := fun hm => by
      rw [List.map_append] at h1
      exact (List.nodup_append.mp h1).2.2 _ hm _ (List.mem_cons_self ..) rfl
    rw [List.foldl_cons, stepL, aput_new n1, aput_new n2]
    exact lens_fold ls _ h
end Q

set_option Elab.async false
set_option linter.all false
set_option maxRecDepth 100000
set_option maxHeartbeats 1000000
namespace Q
open PySem PySem.Spec PyProof.Rows L2

def N_nexts : List Str := ["net", "a", "d"]
def h_nexts : Hint := ⟨[], [], false⟩
def c_nexts : CS := (.seq (.exp (.call "check_routers" (.cons (.var 0) (.cons (.tup (.cons (.var 1) (.cons (.var 2) .nil))) .nil)))) (.ret (.sub (.call "next_tables" (.cons (.var 0) .nil)) (.tup (.cons (.var 1) (.cons (.var 2) .nil))))))
theorem i_nexts (a0 a1 a2 : D) : ini N_nexts [a0, a1, a2] = [.val a0, .val a1, .val a2] := rfl
def N__law_far_from : List Str := ["_law_routers", "_law_lengths_here", "_law_d", "_law_found", "_law_is_done", "_law_a", "_law_b", "_law_far_here"]
def h__law_far_from : Hint := ⟨[3], [], false⟩
def c__law_far_from : CS := (.seq (.par [3, 4] [true, false] (.cons (.dct (.var 2) (.int 0)) (.cons (.bl false) .nil))) (.seq (.whl (.not (.var 4)) (.seq (.set 4 (.bl true)) (.loop (.nms [5, 6]) (.ex (.blt "list" (.cons (.var 1) .nil))) (.seq (.set 7 (.bin .Add (.sub (.var 1) (.tup (.cons (.var 5) (.cons (.var 6) .nil)))) (.mcall (.var 3) "get" (.cons (.var 6) (.cons (.int 0) .nil))))) (.iff (.and (.cmp .In (.var 6) (.var 3)) (.or (.cmp .NotIn (.var 5) (.var 3)) (.cmp .Lt (.var 7) (.sub (.var 3) (.var 5))))) (.puts [(3, some (.var 5)), (4, none)] (.cons (.var 7) (.cons (.bl false) .nil))) .skip))))) (.ret (.var 3))))
theorem i__law_far_from (a0 a1 a2 : D) : ini N__law_far_from [a0, a1, a2] = [.val a0, .val a1, .val a2, .un, .un, .un, .un, .un] := rfl
def N__law_tables : List Str := ["_law_routers", "_law_lengths_here", "_law_found", "_law_d", "_law_far_here", "_law_a", "_law_some", "_law_b"]
def h__law_tables : Hint := ⟨[2], [2], false⟩
def c__law_tables : CS := (.seq (.setOwn 2 (.dnew true)) (.seq (.loop (.nm 3) (.ex (.var 0)) (.seq (.set 4 (.call "_law_far_from" (.cons (.var 0) (.cons (.var 1) (.cons (.var 3) .nil))))) (.loop (.nm 5) (.ex (.var 0)) (.seq (.set 6 (.comp (.var 7) (.nm 7) (.ex (.var 0)) (.yes (.and (.cmp .In (.tup (.cons (.var 5) (.cons (.var 7) .nil))) (.var 1)) (.and (.cmp .In (.var 7) (.var 4)) (.cmp .NotEq (.var 5) (.var 3))))) [7])) (.put 2 (.tup (.cons (.var 5) (.cons (.var 3) .nil))) (.blt "tuple" (.cons (.comp (.var 7) (.nm 7) (.ex (.var 6)) (.yes (.cmp .Eq (.bin .Add (.sub (.var 1) (.tup (.cons (.var 5) (.cons (.var 7) .nil)))) (.sub (.var 4) (.var 7))) (.sub (.var 4) (.var 5)))) [7]) .nil))))))) (.ret (.var 2))))
theorem i__law_tables (a0 a1 : D) : ini N__law_tables [a0, a1] = [.val a0, .val a1, .un, .un, .un, .un, .un, .un] := rfl
def N__law_tables_of : List Str := ["_law_world_here"]
def h__law_tables_of : Hint := ⟨[], [], false⟩
def c__law_tables_of : CS := (.ret (.call "_law_tables" (.cons (.sub (.var 0) (.int 0)) (.cons (.call "_law_lengths" (.cons (.sub (.var 0) (.int 1)) .nil)) .nil))))
theorem i__law_tables_of (a0 : D) : ini N__law_tables_of [a0] = [.val a0] := rfl
def N__law_with : List Str := ["_law_world_here", "_law_a", "_law_b", "_law_there", "_law_back", "_law_kept", "_law_link"]
def h__law_with : Hint := ⟨[], [], false⟩
def c__law_with : CS := (.seq (.set 5 (.comp (.var 6) (.nm 6) (.ex (.sub (.var 0) (.int 1))) (.yes (.cmp .NotEq (.slice (.var 6) .no (.yes (.int 2))) (.tup (.cons (.var 1) (.cons (.var 2) .nil))))) [6])) (.ret (.tup (.cons (.sub (.var 0) (.int 0)) (.cons (.blt "tuple" (.cons (.sortset (.bin .Add (.var 5) (.lst (.cons (.tup (.cons (.var 1) (.cons (.var 2) (.cons (.var 3) (.cons (.var 4) .nil))))) .nil)))) .nil)) .nil)))))
theorem i__law_with (a0 a1 a2 a3 a4 : D) : ini N__law_with [a0, a1, a2, a3, a4] = [.val a0, .val a1, .val a2, .val a3, .val a4, .un, .un] := rfl
def N__law_without : List Str := ["_law_world_here", "_law_a", "_law_b", "_law_link"]
def h__law_without : Hint := ⟨[], [], false⟩
def c__law_without : CS := (.ret (.tup (.cons (.sub (.var 0) (.int 0)) (.cons (.blt "tuple" (.cons (.comp (.var 3) (.nm 3) (.ex (.sub (.var 0) (.int 1))) (.yes (.cmp .NotEq (.slice (.var 3) .no (.yes (.int 2))) (.tup (.cons (.var 1) (.cons (.var 2) .nil))))) [3]) .nil)) .nil))))
theorem i__law_without (a0 a1 a2 : D) : ini N__law_without [a0, a1, a2] = [.val a0, .val a1, .val a2, .un] := rfl
def N__law_shifted : List Str := ["_law_world_here", "_law_a", "_law_b", "_law_t", "_law_link", "_law_one"]
def h__law_shifted : Hint := ⟨[], [], false⟩
def c__law_shifted : CS := (.seq (.iff (.cmp .Is (.var 3) .non) (.ret (.call "_law_without" (.cons (.var 0) (.cons (.var 1) (.cons (.var 2) .nil))))) .skip) (.seq (.set 4 (.sub (.comp (.var 5) (.nm 5) (.ex (.sub (.var 0) (.int 1))) (.yes (.cmp .Eq (.slice (.var 5) .no (.yes (.int 2))) (.tup (.cons (.var 1) (.cons (.var 2) .nil))))) [5]) (.int 0))) (.ret (.call "_law_with" (.cons (.var 0) (.cons (.var 1) (.cons (.var 2) (.cons (.bin .Add (.sub (.var 4) (.int 2)) (.var 3)) (.cons (.bin .Add (.sub (.var 4) (.int 3)) (.var 3)) .nil)))))))))
theorem i__law_shifted (a0 a1 a2 a3 : D) : ini N__law_shifted [a0, a1, a2, a3] = [.val a0, .val a1, .val a2, .val a3, .un, .un] := rfl
def N__law_near : List Str := ["_law_pot_here", "_law_world_here", "_law_found", "_law_turn", "_law_way", "_law_some", "_law_more", "_law_is_less", "_law_a", "_law_b", "_law_there", "_law_back"]
def h__law_near : Hint := ⟨[], [], false⟩
def c__law_near : CS := (.seq (.set 2 (.var 1)) (.seq (.loop (.nm 3) (.rng1 (.bin .Add (.int 1) (.call "_law_take" (.cons (.var 0) (.cons (.int 3) .nil))))) (.seq (.par [4, 5] [false, false] (.cons (.call "_law_take" (.cons (.var 0) (.cons (.int 5) .nil))) (.cons (.sub (.var 2) (.int 1)) .nil))) (.iff (.and (.cmp .Lt (.var 4) (.int 3)) (.cmp .NotEq (.var 5) (.tup .nil))) (.seq (.unpack [8, 9, 10, 11] (.call "_law_of" (.cons (.var 0) (.cons (.var 5) .nil)))) (.seq (.set 6 (.call "_law_of" (.cons (.var 0) (.cons (.lst (.cons (.int 1) (.cons (.int 2) (.cons (.int 3) (.cons (.int 5) (.cons (.int 9) (.cons (.int 30) .nil))))))) .nil)))) (.seq (.set 7 (.and (.cmp .Eq (.var 4) (.int 2)) (.cmp .Gt (.blt "min" (.cons (.blt "int" (.cons (.var 10) .nil)) (.cons (.blt "int" (.cons (.var 11) .nil)) .nil))) (.var 6)))) (.set 2 (.call "_law_shifted" (.cons (.var 2) (.cons (.var 8) (.cons (.var 9) (.cons (.ife (.var 7) (.neg (.var 6)) (.var 6)) .nil))))))))) (.iff (.and (.cmp .Eq (.var 4) (.int 3)) (.cmp .Gt (.blt "len" (.cons (.var 5) .nil)) (.int 1))) (.seq (.unpack [8, 9] (.slice (.call "_law_of" (.cons (.var 0) (.cons (.var 5) .nil))) .no (.yes (.int 2)))) (.set 2 (.call "_law_without" (.cons (.var 2) (.cons (.var 8) (.cons (.var 9) .nil)))))) (.iff (.cmp .Lt (.blt "len" (.cons (.var 5) .nil)) (.int 16)) (.seq (.unpack [8, 9] (.sortset (.slice (.call "_law_turned" (.cons (.var 0) (.cons (.blt "list" (.cons (.sub (.var 2) (.int 0)) .nil)) .nil))) .no (.yes (.int 2))))) (.set 2 (.call "_law_with" (.cons (.var 2) (.cons (.var 8) (.cons (.var 9) (.cons (.call "_law_far" (.cons (.var 0) .nil)) (.cons (.call "_law_far" (.cons (.var 0) .nil)) .nil)))))))) .skip))))) (.ret (.var 2))))
theorem i__law_near (a0 a1 : D) : ini N__law_near [a0, a1] = [.val a0, .val a1, .un, .un, .un, .un, .un, .un, .un, .un, .un, .un] := rfl
def N_alike : List Str := ["old", "new", "router", "one", "other", "d"]
def h_alike : Hint := ⟨[], [], false⟩
def c_alike : CS := (.seq (.iff (.cmp .NotEq (.attr (.var 0) "routers") (.attr (.var 1) "routers")) (.ret (.tup .nil)) .skip) (.seq (.par [3, 4] [false, false] (.cons (.call "next_tables" (.cons (.var 0) .nil)) (.cons (.call "next_tables" (.cons (.var 1) .nil)) .nil))) (.seq (.loop (.nm 2) (.ex (.attr (.var 0) "routers")) (.loop (.nm 5) (.ex (.attr (.var 0) "routers")) (.iff (.cmp .NotEq (.sub (.var 3) (.tup (.cons (.var 2) (.cons (.var 5) .nil)))) (.sub (.var 4) (.tup (.cons (.var 2) (.cons (.var 5) .nil))))) (.ret (.tup (.cons (.var 2) (.cons (.var 5) .nil)))) .skip))) (.ret .non))))
theorem i_alike (a0 a1 : D) : ini N_alike [a0, a1] = [.val a0, .val a1, .un, .un, .un, .un] := rfl
end Q

set_option Elab.async false
set_option linter.all false
set_option maxRecDepth 100000
set_option maxHeartbeats 1000000
namespace Q
open PySem PySem.Spec PyProof.Rows L2
local macro_rules
  | `(tactic| exists run1) => `(tactic| (first
      | with_reducible refine Ex.seq ?_ | with_reducible refine Ex.set ?_ | with_reducible refine Ex.ret ?_ | with_reducible refine Ex.exp ?_ | with_reducible refine Ex.setOwn ?_ | with_reducible refine Ex.unpack ?_ | with_reducible refine Ex.par ?_ | with_reducible refine Ex.put ?_ | with_reducible refine Ex.app ?_ | with_reducible refine Ex.ext ?_ | with_reducible refine Ex.iff ?_ | with_reducible refine Ex.skip ?_ | with_reducible refine Ex.retN ?_ | with_reducible refine Ex.cont ?_ | with_reducible refine Ex.puts ?_ | with_reducible refine Ex.setA ?_ | with_reducible refine Ex.loop ?_
      | (with_reducible refine Ee.isv ?_; refine Ee.var rfl ?_)
      | with_reducible refine Ee.int ?_ | with_reducible refine Ee.bl ?_ | with_reducible refine Ee.str ?_ | with_reducible refine Ee.non ?_ | with_reducible refine Ee.tup ?_ | with_reducible refine Ee.lst ?_ | with_reducible refine Ee.bin ?_ | with_reducible refine Ee.neg ?_ | with_reducible refine Ee.cmp ?_ | with_reducible refine Ee.chain ?_ | with_reducible refine Ee.and ?_ | with_reducible refine Ee.or ?_ | with_reducible refine Ee.not ?_ | with_reducible refine Ee.ife ?_ | with_reducible refine Ee.sub ?_ | with_reducible refine Ee.slice ?_ | with_reducible refine Ee.rev ?_ | with_reducible refine Ee.sortset ?_ | with_reducible refine Ee.isi ?_ | with_reducible refine Ee.blt ?_ | with_reducible refine Ee.dct ?_ | with_reducible refine Ee.dnewT ?_ | with_reducible refine Ee.dnewK ?_
      | with_reducible refine El.cons ?_ | with_reducible refine El.nil ?_ | with_reducible refine Ep.nil ?_ | with_reducible refine Ep.val ?_ | with_reducible refine Ep.own ?_ | with_reducible refine Eo.no ?_ | with_reducible refine Eo.yes ?_ | with_reducible refine Eb.no ?_ | with_reducible refine Eb.yes ?_
      | with_reducible refine Ei.exv ?_ | with_reducible refine Ei.ex rfl ?_ | with_reducible refine Ei.rng1 ?_ | with_reducible refine Ei.rng2 ?_ | with_reducible refine Ei.enum ?_ | with_reducible refine Ei.zip ?_
      | with_reducible refine Aft.nx ?_ | with_reducible refine Aft.rt ?_ | with_reducible refine Aft.ct ?_ | with_reducible refine Trn.nx ?_ | with_reducible refine Trn.rt ?_ | with_reducible refine Trn.ct ?_ | with_reducible refine Fin.rt ?_ | with_reducible refine Fin.nx ?_
      | with_reducible refine Ts.mk ?_ | with_reducible refine Pt.mk ?_ | with_reducible refine exb ?_ | with_reducible refine exi ?_ | with_reducible refine exii ?_
      | with_reducible refine pr_add ?_ | with_reducible refine pr_sub ?_ | with_reducible refine pr_gt ?_ | with_reducible refine pr_le ?_ | with_reducible refine pr_ge ?_ | with_reducible refine pr_lt ?_ | with_reducible refine pr_lts ?_ | with_reducible refine pr_eqi ?_ | with_reducible refine pr_nei ?_ | with_reducible refine pr_eqs ?_ | with_reducible refine pr_nes ?_ | with_reducible refine pr_eqb ?_ | with_reducible refine pr_in ?_ | with_reducible refine pr_nin ?_
      | with_reducible refine pr_len_l ?_ | with_reducible refine pr_len_t ?_ | with_reducible refine pr_len_r ?_ | with_reducible refine pr_len_k ?_ | with_reducible refine pr_abs ?_ | with_reducible refine pr_max ?_ | with_reducible refine pr_min ?_ | with_reducible refine pr_int ?_ | with_reducible refine pr_intb ?_ | with_reducible refine pr_tup_l ?_ | with_reducible refine pr_list_l ?_ | with_reducible refine pr_list_t ?_ | with_reducible refine pr_sorted ?_ | with_reducible refine pr_repr ?_
      | with_reducible refine pr_items_l ?_ | with_reducible refine pr_items_t ?_ | with_reducible refine pr_keys_l ?_ | with_reducible refine pr_keys_t ?_ | with_reducible refine pr_keys_k ?_ | with_reducible refine pr_keys_kt ?_ | with_reducible refine pr_sl_l ?_ | with_reducible refine pr_sl_t ?_ | with_reducible refine pr_rev ?_ | with_reducible refine pr_bind1 ?_ | with_reducible refine pr_binds1 ?_
      | (with_reducible refine pr_cell (by assumption) ?_ ?_; exact rfl)
      | rw [sF_vals rfl]))
def P_getR (m : FS) : Prop := ∀ (st : Store) (rs : List Str) (ls : List Lk) (Q : D → Store → Prop), Q (rsD rs) st → Cl m [netD rs ls] st Q
def P_getL (m : FS) : Prop := ∀ (st : Store) (rs : List Str) (ls : List Lk) (Q : D → Store → Prop), Q (lsD ls) st → Cl m [netD rs ls] st Q
theorem getR_ok {T : Tab} (hf : T.fld "Net" = ([("own_routers" : Str), ("own_links" : Str)] : List Str)) : P_getR (den T N_Net__routers 1 c_Net__routers) := by
  intro st rs ls Q k
  refine Cl.den rfl (i_Net__routers _) ?_
  unfold c_Net__routers
  (repeat (exists run1))
  refine Ee.attr ?_
  (repeat (exists run1))
  exact ⟨_, _, _, rfl, by rw [hf]; decide +kernel, Pr.of rfl (Fin.rt k)⟩
theorem getL_ok {T : Tab} (hf : T.fld "Net" = ([("own_routers" : Str), ("own_links" : Str)] : List Str)) : P_getL (den T N_Net__links 1 c_Net__links) := by
  intro st rs ls Q k
  refine Cl.den rfl (i_Net__links _) ?_
  unfold c_Net__links
  (repeat (exists run1))
  refine Ee.attr ?_
  (repeat (exists run1))
  exact ⟨_, _, _, rfl, by rw [hf]; decide +kernel, Pr.of rfl (Fin.rt k)⟩
structure NetT (T : Tab) : Prop where
  fld : T.fld "Net" = ([("own_routers" : Str), ("own_links" : Str)] : List Str)
  r : HasP T "Net" "routers" P_getR
  l : HasP T "Net" "links" P_getL
theorem NetT.add {T : Tab} {x : Str} {m : FS} (h : NetT T) : NetT (T.add x m) := ⟨h.fld, h.r, h.l⟩
theorem NetT.addM {T : Tab} {c x : Str} {m : FS} (h : NetT T) : NetT (T.addMth c x m) := ⟨h.fld, h.r, h.l⟩
theorem Ee.routers {T : Tab} {a : CE} {env : List (Option D)} {st : Store} {Q : D → Store → Prop} (hN : NetT T) (h : Ee T a env st fun x s => ∃ rs ls, x = netD rs ls ∧ Q (rsD rs) s) : Ee T (.attr a "routers") env st Q := by
  obtain ⟨f, h1, h2⟩ := hN.r
  refine Ee.prop (h.mono ?_)
  rintro d s ⟨rs, ls, rfl, q⟩
  exact ⟨_, _, _, f, rfl, by rw [hN.fld]; decide +kernel, h1, h2 s rs ls _ q⟩
theorem Ee.links {T : Tab} {a : CE} {env : List (Option D)} {st : Store} {Q : D → Store → Prop} (hN : NetT T) (h : Ee T a env st fun x s => ∃ rs ls, x = netD rs ls ∧ Q (lsD ls) s) : Ee T (.attr a "links") env st Q := by
  obtain ⟨f, h1, h2⟩ := hN.l
  refine Ee.prop (h.mono ?_)
  rintro d s ⟨rs, ls, rfl, q⟩
  exact ⟨_, _, _, f, rfl, by rw [hN.fld]; decide +kernel, h1, h2 s rs ls _ q⟩
def P_check (m : FS) : Prop := ∀ (st : Store) (rs : List Str) (ls : List Lk) (ss : List Str) (Q : D → Store → Prop), (∀ r ∈ rs, IsName r) → (∀ s ∈ ss, s ∈ rs) → Q .non st → Cl m [netD rs ls, .tup (ss.map D.str)] st Q
theorem check_ok {T : Tab} (hN : NetT T) (h1 : Has T "is_one_of" P_isone) : P_check (den T N_check_routers 2 c_check_routers) := by
  intro st rs ls ss Q hn hs k
  refine Cl.den rfl (i_check_routers _ _) ?_
  unfold c_check_routers
  (repeat (exists run1))
  refine Lp.inv (fun i e s => (∃ s2, e = [.val (netD rs ls), .val (.tup (ss.map D.str)), s2]) ∧ s = st) ⟨⟨.un, rfl⟩, rfl⟩ ?_ ?_
  · rintro i d e s hd ⟨⟨s2, rfl⟩, rfl⟩
    rw [List.getElem?_map] at hd
    obtain ⟨a, ha, rfl⟩ := Option.map_eq_some_iff.mp hd
    (repeat (exists run1))
    refine Ee.callH h1 fun m hm => ?_
    (repeat (exists run1))
    refine Ee.routers hN ?_
    (repeat (exists run1))
    refine ⟨rs, ls, rfl, ?_⟩
    (repeat (exists run1))
    refine hm _ _ _ _ hn (hs a (List.mem_of_getElem? ha)) ?_
    (repeat (exists run1))
    refine ⟨fun h => (by cases h), fun _ => ?_⟩
    (repeat (exists run1))
    exact ⟨⟨.val (.str a), rfl⟩, rfl⟩
  · rintro e s ⟨_, rfl⟩
    exact Fin.nx k
def P_lens (m : FS) : Prop := ∀ (st : Store) (B : Int) (rs : List Str) (ls : List Lk) (Q : D → Store → Prop), IsW B rs ls → Q (lD (lensOf ls)) st → Cl m [netD rs ls] st Q
theorem fold_len (ls : List Lk) : ∀ ll : Lens, (ls.foldl stepL ll).length ≤ ll.length + 2 * ls.length := by
  induction ls with
  | nil => intro ll; exact Nat.le_refl _
  | cons l ls ih =>
    intro ll
    rw [List.foldl_cons]
    have h1 := ih (stepL ll l)
    have h2 : (stepL ll l).length ≤ ll.length + 2 := by
      unfold stepL
      exact Nat.le_trans aput_len (Nat.succ_le_succ aput_len)
    rw [List.length_cons]
    omega
theorem lens_ok {T : Tab} (hN : NetT T) : P_lens (den T N_lengths_of 1 c_lengths_of) := by
  intro st B rs ls Q w k
  refine Cl.den rfl (i_lengths_of _) ?_
  unfold c_lengths_of
  (repeat (exists run1))
  refine ⟨rfl, ?_⟩
  (repeat (exists run1))
  refine Ee.links hN ?_
  (repeat (exists run1))
  refine ⟨rs, ls, rfl, ?_⟩
  unfold lsD
  (repeat (exists run1))
  have few := w.few
  refine Lp.inv (fun i e s => (∃ s2 s3 s4 s5, e = [.val (netD rs ls), .own (lD ((ls.take i).foldl stepL [])), s2, s3, s4, s5]) ∧ s = st) ⟨⟨.un, .un, .un, .un, rfl⟩, rfl⟩ ?_ ?_
  · rintro i d e s hd ⟨⟨s2, s3, s4, s5, rfl⟩, rfl⟩
    rw [List.getElem?_map] at hd
    obtain ⟨l, hl, rfl⟩ := Option.map_eq_some_iff.mp hd
    have hi : i < ls.length := (List.getElem?_eq_some_iff.mp hl).1
    have len := fold_len (ls.take i) []
    rw [List.length_take, List.length_nil] at len
    refine pr_bindsn rfl ?_
    (repeat (exists run1))
    refine pr_putP (vf := D.int) rfl (by rw [sizeLine_eq]; omega) ?_
    (repeat (exists run1))
    refine pr_putP (vf := D.int) rfl (Nat.lt_of_le_of_lt aput_len (by rw [sizeLine_eq]; omega)) ?_
    refine Trn.nx ⟨⟨.val (.str l.1), .val (.str l.2.1), .val (.int l.2.2.1), .val (.int l.2.2.2), ?_⟩, rfl⟩
    rw [List.take_succ, hl, List.foldl_append]
    rfl
  · rintro e s ⟨⟨s2, s3, s4, s5, rfl⟩, rfl⟩
    rw [List.length_map, List.take_length, lens_fold ls [] (lens_keys w)]
    (repeat (exists run1))
    exact k
/-! ### distances -/
abbrev Dst := List (Str × Int)
def relax (f : Dst) (p : (Str × Str) × Int) : Dst := match aget f p.1.2 with
  | none => f
  | some db => match aget f p.1.1 with
    | none => aput f p.1.1 (p.2 + db)
    | some da => if p.2 + db < da then aput f p.1.1 (p.2 + db) else f
def rnd (ll : Lens) (f : Dst) : Dst := ll.foldl relax f
def rnds (ll : Lens) : Nat → Dst → Dst
  | 0, f => f
  | n + 1, f => rnd ll (rnds ll n f)
def distOf (n : Nat) (ll : Lens) (d : Str) : Dst := rnds ll n [(d, 0)]
theorem relax_len (f : Dst) (p : (Str × Str) × Int) : (relax f p).length ≤ f.length + 1 := by
  unfold relax
  split
  · exact Nat.le_succ _
  · split
    · exact aput_len
    · split
      · exact aput_len
      · exact Nat.le_succ _
theorem rnd_len (ll : Lens) : ∀ f : Dst, (rnd ll f).length ≤ f.length + ll.length := by
  unfold rnd
  induction ll with
  | nil => intro f; exact Nat.le_refl _
  | cons p ll ih =>
    intro f
    rw [List.foldl_cons, List.length_cons]
    have := ih (relax f p)
    have := relax_len f p
    omega
theorem rnds_len (ll : Lens) (f : Dst) : ∀ n, (rnds ll n f).length ≤ f.length + n * ll.length
  | 0 => by simp [rnds]
  | n + 1 => by
    rw [rnds]
    have := rnd_len ll (rnds ll n f)
    have := rnds_len ll f n
    rw [Nat.succ_mul]
    omega
def P_dist (m : FS) : Prop := ∀ (st : Store) (rs : List Str) (ll : Lens) (d : Str) (Q : D → Store → Prop), rs.length ≤ 8 → ll.length ≤ 100 → (ll.map (·.1)).Nodup → Q (dS D.int (distOf rs.length ll d)) st → Cl m [rsD rs, lD ll, .str d] st Q
set_option maxHeartbeats 8000000 in
theorem dist_ok {T : Tab} : P_dist (den T N_distances_to 3 c_distances_to) := by
  intro st rs ll d Q h8 h100 nd k
  refine Cl.den rfl (i_distances_to _ _ _) ?_
  unfold c_distances_to rsD
  (repeat (exists run1))
  refine Pr.of rfl ⟨rfl, ?_⟩
  (repeat (exists run1))
  refine pr_rng ⟨by decide, by decide, by rw [List.length_map]; omega, by rw [List.length_map]; omega, by rw [List.length_map, sizeLine_eq]; omega⟩ ?_
  refine Lp.inv (fun i e s => (∃ s4 s5 s6, e = [.val (.tup (rs.map D.str)), .val (lD ll), .val (.str d), .own (dS D.int (rnds ll i [(d, 0)])), s4, s5, s6]) ∧ s = st) ⟨⟨.un, .un, .un, rfl⟩, rfl⟩ ?_ ?_
  · rintro i x e s hx ⟨⟨s4, s5, s6, rfl⟩, rfl⟩
    have hi : i < rs.length := by
      have := (List.getElem?_eq_some_iff.mp hx).1
      rw [List.length_map, List.length_range, List.length_map] at this
      omega
    have lenF := rnds_len ll [(d, 0)] i
    have lenF2 : (rnds ll i [(d, 0)]).length ≤ 801 := by
      have : i * ll.length ≤ 8 * 100 := Nat.mul_le_mul (by omega) h100
      simp only [List.length_cons, List.length_nil] at lenF
      omega
    generalize hF : rnds ll i [(d, 0)] = F at lenF2
    (repeat (exists run1))
    unfold lD
    refine pr_keysP ?_
    refine Lp.inv (fun j e s' => (∃ s5 s6, e = [.val (.tup (rs.map D.str)), .val (dP D.int ll), .val (.str d), .own (dS D.int ((ll.take j).foldl relax F)), .val x, s5, s6]) ∧ s' = s) ⟨⟨s5, s6, rfl⟩, rfl⟩ ?_ ?_
    · rintro j y e s' hy ⟨⟨s5', s6', rfl⟩, rfl⟩
      rw [List.getElem?_map] at hy
      obtain ⟨p, hp, rfl⟩ := Option.map_eq_some_iff.mp hy
      have hj : j < ll.length := (List.getElem?_eq_some_iff.mp hp).1
      have hget : aget ll (p.1.1, p.1.2) = some p.2 := aget_of nd (List.mem_of_getElem? hp)
      have lenG : ((ll.take j).foldl relax F).length ≤ 901 := by
        have := rnd_len (ll.take j) F
        unfold rnd at this
        rw [List.length_take] at this
        omega
      have nxt : (ll.take (j + 1)).foldl relax F = relax ((ll.take j).foldl relax F) p := by rw [List.take_succ, hp, List.foldl_append]; rfl
      rw [nxt]
      generalize (ll.take j).foldl relax F = G at lenG
      unfold pairD
      (repeat (first | exists run1 | refine pr_subt rfl ?_))
      refine pr_inS ?_
      (repeat (exists run1))
      refine ⟨fun hb => ?_, fun hb => ?_⟩
      · obtain ⟨db, hdb⟩ := Option.isSome_iff_exists.mp hb
        (repeat (first | exists run1 | refine pr_subt rfl ?_ | refine pr_subP hget ?_ | refine pr_subS hdb ?_))
        refine pr_inS ?_
        (repeat (exists run1))
        have hlt : G.length < sizeLine := by rw [sizeLine_eq]; omega
        refine ⟨fun ha => ?_, fun ha => ?_⟩
        · have ha2 : (aget G p.1.1).isSome = true := by
            cases h : (aget G p.1.1).isSome with
            | true => rfl
            | false => rw [h] at ha; cases ha
          obtain ⟨da, hda⟩ := Option.isSome_iff_exists.mp ha2
          (repeat (first | exists run1 | refine pr_subt rfl ?_ | refine pr_subS hda ?_))
          refine ⟨fun hl => ?_, fun hl => ?_⟩
          · (repeat (first | exists run1 | refine pr_subt rfl ?_))
            refine pr_putS (vf := D.int) rfl hlt ?_
            refine Trn.nx ⟨⟨.val (.tup [.str p.1.1, .str p.1.2]), .val (.int (p.2 + db)), ?_⟩, rfl⟩
            unfold relax
            rw [hdb, hda]
            dsimp only
            rw [if_pos (of_decide_eq_true hl)]
            rfl
          · (repeat (exists run1))
            refine ⟨⟨.val (.tup [.str p.1.1, .str p.1.2]), .val (.int (p.2 + db)), ?_⟩, rfl⟩
            unfold relax
            rw [hdb, hda]
            dsimp only
            rw [if_neg (of_decide_eq_false hl)]
            rfl
        · have ha2 : aget G p.1.1 = none := by
            cases h : aget G p.1.1 with
            | none => rfl
            | some z => rw [h] at ha; cases ha
          refine exb ⟨fun _ => ?_, fun h => (by cases h)⟩
          (repeat (first | exists run1 | refine pr_subt rfl ?_))
          refine pr_putS (vf := D.int) rfl hlt ?_
          refine Trn.nx ⟨⟨.val (.tup [.str p.1.1, .str p.1.2]), .val (.int (p.2 + db)), ?_⟩, rfl⟩
          unfold relax
          rw [hdb, ha2]
          rfl
      · have hb2 : aget G p.1.2 = none := by
          cases h : aget G p.1.2 with
          | none => rfl
          | some z => rw [h] at hb; cases hb
        (repeat (exists run1))
        refine ⟨⟨.val (.tup [.str p.1.1, .str p.1.2]), s6', ?_⟩, rfl⟩
        unfold relax
        rw [hb2]
        rfl
    · rintro e s' ⟨⟨s5', s6', rfl⟩, rfl⟩
      rw [List.length_map, List.take_length]
      refine Trn.nx ⟨⟨.val x, s5', s6', ?_⟩, rfl⟩
      rw [rnds, hF]
      rfl
  · rintro e s ⟨⟨s4, s5, s6, rfl⟩, rfl⟩
    have e8 : ((List.range (((rs.map D.str).length : Int) - 0).toNat).map fun (k : Nat) => D.int (0 + (k : Int))).length = rs.length := by
      rw [List.length_map, List.length_range, List.length_map]; omega
    rw [e8]
    (repeat (exists run1))
    exact k
end Q

set_option Elab.async false
set_option linter.all false
set_option maxRecDepth 100000
set_option maxHeartbeats 1000000
namespace Q
open PySem PySem.Spec PyProof.Rows L2
local macro_rules
  | `(tactic| exists run1) => `(tactic| (first
      | with_reducible refine Ex.seq ?_ | with_reducible refine Ex.set ?_ | with_reducible refine Ex.ret ?_ | with_reducible refine Ex.exp ?_ | with_reducible refine Ex.setOwn ?_ | with_reducible refine Ex.unpack ?_ | with_reducible refine Ex.par ?_ | with_reducible refine Ex.put ?_ | with_reducible refine Ex.app ?_ | with_reducible refine Ex.ext ?_ | with_reducible refine Ex.iff ?_ | with_reducible refine Ex.skip ?_ | with_reducible refine Ex.retN ?_ | with_reducible refine Ex.cont ?_ | with_reducible refine Ex.puts ?_ | with_reducible refine Ex.setA ?_ | with_reducible refine Ex.loop ?_
      | (with_reducible refine Ee.isv ?_; refine Ee.var rfl ?_)
      | with_reducible refine Ee.int ?_ | with_reducible refine Ee.bl ?_ | with_reducible refine Ee.str ?_ | with_reducible refine Ee.non ?_ | with_reducible refine Ee.tup ?_ | with_reducible refine Ee.lst ?_ | with_reducible refine Ee.bin ?_ | with_reducible refine Ee.neg ?_ | with_reducible refine Ee.cmp ?_ | with_reducible refine Ee.chain ?_ | with_reducible refine Ee.and ?_ | with_reducible refine Ee.or ?_ | with_reducible refine Ee.not ?_ | with_reducible refine Ee.ife ?_ | with_reducible refine Ee.sub ?_ | with_reducible refine Ee.slice ?_ | with_reducible refine Ee.rev ?_ | with_reducible refine Ee.sortset ?_ | with_reducible refine Ee.isi ?_ | with_reducible refine Ee.blt ?_ | with_reducible refine Ee.dct ?_ | with_reducible refine Ee.dnewT ?_ | with_reducible refine Ee.dnewK ?_
      | with_reducible refine El.cons ?_ | with_reducible refine El.nil ?_ | with_reducible refine Ep.nil ?_ | with_reducible refine Ep.val ?_ | with_reducible refine Ep.own ?_ | with_reducible refine Eo.no ?_ | with_reducible refine Eo.yes ?_ | with_reducible refine Eb.no ?_ | with_reducible refine Eb.yes ?_
      | with_reducible refine Ei.exv ?_ | with_reducible refine Ei.ex rfl ?_ | with_reducible refine Ei.rng1 ?_ | with_reducible refine Ei.rng2 ?_ | with_reducible refine Ei.enum ?_ | with_reducible refine Ei.zip ?_
      | with_reducible refine Aft.nx ?_ | with_reducible refine Aft.rt ?_ | with_reducible refine Aft.ct ?_ | with_reducible refine Trn.nx ?_ | with_reducible refine Trn.rt ?_ | with_reducible refine Trn.ct ?_ | with_reducible refine Fin.rt ?_ | with_reducible refine Fin.nx ?_
      | with_reducible refine Ts.mk ?_ | with_reducible refine Pt.mk ?_ | with_reducible refine exb ?_ | with_reducible refine exi ?_ | with_reducible refine exii ?_
      | with_reducible refine pr_add ?_ | with_reducible refine pr_sub ?_ | with_reducible refine pr_gt ?_ | with_reducible refine pr_le ?_ | with_reducible refine pr_ge ?_ | with_reducible refine pr_lt ?_ | with_reducible refine pr_lts ?_ | with_reducible refine pr_eqi ?_ | with_reducible refine pr_nei ?_ | with_reducible refine pr_eqs ?_ | with_reducible refine pr_nes ?_ | with_reducible refine pr_eqb ?_ | with_reducible refine pr_in ?_ | with_reducible refine pr_nin ?_
      | with_reducible refine pr_len_l ?_ | with_reducible refine pr_len_t ?_ | with_reducible refine pr_len_r ?_ | with_reducible refine pr_len_k ?_ | with_reducible refine pr_abs ?_ | with_reducible refine pr_max ?_ | with_reducible refine pr_min ?_ | with_reducible refine pr_int ?_ | with_reducible refine pr_intb ?_ | with_reducible refine pr_tup_l ?_ | with_reducible refine pr_list_l ?_ | with_reducible refine pr_list_t ?_ | with_reducible refine pr_sorted ?_ | with_reducible refine pr_repr ?_
      | with_reducible refine pr_items_l ?_ | with_reducible refine pr_items_t ?_ | with_reducible refine pr_keys_l ?_ | with_reducible refine pr_keys_t ?_ | with_reducible refine pr_keys_k ?_ | with_reducible refine pr_keys_kt ?_ | with_reducible refine pr_sl_l ?_ | with_reducible refine pr_sl_t ?_ | with_reducible refine pr_rev ?_ | with_reducible refine pr_bind1 ?_ | with_reducible refine pr_binds1 ?_
      | (with_reducible refine pr_cell (by assumption) ?_ ?_; exact rfl)
      | rw [sF_vals rfl]))
/-! ### rows of routers towards d -/
inductive Pth (ll : Lens) (d : Str) : List Str → Int → Prop where
  | nil : Pth ll d [d] 0
  | cons {a b : Str} {r : List Str} {w v : Int} : ((a, b), w) ∈ ll → Pth ll d (b :: r) v → Pth ll d (a :: b :: r) (w + v)
section
variable {ll : Lens} {d : Str}
theorem Pth.nonneg (hp : ∀ p ∈ ll, 1 ≤ p.2) {r : List Str} {v : Int} (h : Pth ll d r v) : 0 ≤ v := by
  induction h with
  | nil => exact Int.le_refl _
  | cons hm _ ih => have := hp _ hm; dsimp only at this; omega
theorem Pth.pos (hp : ∀ p ∈ ll, 1 ≤ p.2) {a b : Str} {r : List Str} {v : Int} (h : Pth ll d (a :: b :: r) v) : 1 ≤ v := by
  cases h with
  | cons hm t => have := hp _ hm; have := t.nonneg hp; dsimp only at *; omega
theorem Pth.ne {r : List Str} {v : Int} (h : Pth ll d r v) : r ≠ [] := by cases h <;> simp
theorem Pth.last {r : List Str} {v : Int} (h : Pth ll d r v) : r.getLast? = some d := by
  induction h with
  | nil => rfl
  | cons _ _ ih => rw [List.getLast?_cons_cons]; exact ih
theorem Pth.sub {rs : List Str} (hd : d ∈ rs) (he : ∀ p ∈ ll, p.1.1 ∈ rs ∧ p.1.2 ∈ rs) {r : List Str} {v : Int} (h : Pth ll d r v) : ∀ x ∈ r, x ∈ rs := by
  induction h with
  | nil => intro x hx; simp at hx; subst hx; exact hd
  | cons hm _ ih =>
    intro x hx
    rcases List.mem_cons.mp hx with rfl | hx
    · exact (he _ hm).1
    · exact ih x hx
/-- a row's end from one of its routers on -/
theorem Pth.from (hp : ∀ p ∈ ll, 1 ≤ p.2) {r : List Str} {v : Int} (h : Pth ll d r v) : ∀ a ∈ r, r.Nodup → ∃ s u, Pth ll d (a :: s) u ∧ u ≤ v ∧ (a :: s).Nodup := by
  induction h with
  | nil => intro a ha hn; simp at ha; subst ha; exact ⟨[], 0, .nil, Int.le_refl _, hn⟩
  | @cons x b r w v hm t ih =>
    intro a ha hn
    by_cases e : a = x
    · subst e
      exact ⟨b :: r, w + v, .cons hm t, Int.le_refl _, hn⟩
    · have ha2 : a ∈ b :: r := (List.mem_cons.mp ha).resolve_left e
      obtain ⟨s, u, h1, h2, h3⟩ := ih a ha2 (List.nodup_cons.mp hn).2
      exact ⟨s, u, h1, by have := hp _ hm; dsimp only at this; omega, h3⟩
theorem Pth.simple (hp : ∀ p ∈ ll, 1 ≤ p.2) {r : List Str} {v : Int} (h : Pth ll d r v) : ∀ x t, r = x :: t → ∃ s u, Pth ll d (x :: s) u ∧ u ≤ v ∧ (x :: s).Nodup := by
  induction h with
  | nil => intro x t e; cases e; exact ⟨[], 0, .nil, Int.le_refl _, by simp⟩
  | @cons a b r w v hm t ih =>
    intro x t' e
    cases e
    obtain ⟨s, u, h1, h2, h3⟩ := ih b r rfl
    by_cases ha : a ∈ b :: s
    · obtain ⟨s', u', g1, g2, g3⟩ := h1.from hp a ha h3
      exact ⟨s', u', g1, by have := hp _ hm; dsimp only at this; omega, g3⟩
    · exact ⟨b :: s, w + u, .cons hm h1, by omega, List.nodup_cons.mpr ⟨ha, h3⟩⟩
/-! ### rounds -/
def Sound (ll : Lens) (d : Str) (f : Dst) : Prop := ∀ x v, aget f x = some v → ∃ r, Pth ll d (x :: r) v
/-- f tells at most v of x -/
def DLe (f : Dst) (x : Str) (v : Int) : Prop := ∃ u, aget f x = some u ∧ u ≤ v
theorem DLe.mono {f : Dst} {x : Str} {v v' : Int} (h : DLe f x v) (hv : v ≤ v') : DLe f x v' := by obtain ⟨u, h1, h2⟩ := h; exact ⟨u, h1, by omega⟩
theorem relax_sound {f : Dst} {p : (Str × Str) × Int} (hp : p ∈ ll) (h : Sound ll d f) : Sound ll d (relax f p) := by
  have one : ∀ db, aget f p.1.2 = some db → Sound ll d (aput f p.1.1 (p.2 + db)) := fun db hb x v e => by
    rw [aget_put] at e
    split at e
    · rename_i ex
      cases e
      obtain ⟨r, hr⟩ := h _ _ hb
      subst ex
      exact ⟨p.1.2 :: r, .cons hp hr⟩
    · exact h x v e
  unfold relax
  split
  · exact h
  · rename_i db hb
    split
    · exact one db hb
    · split
      · exact one db hb
      · exact h
theorem relax_le {f : Dst} {p : (Str × Str) × Int} {x : Str} {v : Int} (h : DLe f x v) : DLe (relax f p) x v := by
  obtain ⟨u, h1, h2⟩ := h
  unfold relax
  split
  · exact ⟨u, h1, h2⟩
  · rename_i db hb
    split
    · rename_i ha
      refine ⟨u, ?_, h2⟩
      rw [aget_put, if_neg]
      · exact h1
      · intro e; subst e; rw [ha] at h1; cases h1
    · rename_i da ha
      split
      · rename_i hl
        by_cases e : p.1.1 = x
        · refine ⟨p.2 + db, by rw [aget_put, if_pos e], ?_⟩
          subst e
          rw [ha] at h1
          cases h1
          omega
        · exact ⟨u, by rw [aget_put, if_neg e]; exact h1, h2⟩
      · exact ⟨u, h1, h2⟩
theorem relax_edge {f : Dst} {p : (Str × Str) × Int} {v : Int} (h : DLe f p.1.2 v) : DLe (relax f p) p.1.1 (p.2 + v) := by
  obtain ⟨u, h1, h2⟩ := h
  unfold relax
  rw [h1]
  dsimp only
  split
  · exact ⟨p.2 + u, by rw [aget_put, if_pos rfl], by omega⟩
  · rename_i da ha
    split
    · exact ⟨p.2 + u, by rw [aget_put, if_pos rfl], by omega⟩
    · exact ⟨da, ha, by omega⟩
theorem fold_sound : ∀ (l : Lens) (f : Dst), (∀ p ∈ l, p ∈ ll) → Sound ll d f → Sound ll d (l.foldl relax f)
  | [], f, _, h => h
  | p :: l, f, hl, h => fold_sound l _ (fun q hq => hl q (List.mem_cons_of_mem _ hq)) (relax_sound (hl p (List.mem_cons_self ..)) h)
theorem fold_le : ∀ (l : Lens) (f : Dst) {x : Str} {v : Int}, DLe f x v → DLe (l.foldl relax f) x v
  | [], f, x, v, h => h
  | p :: l, f, x, v, h => fold_le l _ (relax_le h)
theorem fold_edge : ∀ (l : Lens) (f : Dst) {p : (Str × Str) × Int} {v : Int}, p ∈ l → DLe f p.1.2 v → DLe (l.foldl relax f) p.1.1 (p.2 + v)
  | [], f, p, v, hp, h => absurd hp List.not_mem_nil
  | q :: l, f, p, v, hp, h => by
    rw [List.foldl_cons]
    rcases List.mem_cons.mp hp with rfl | hp
    · exact fold_le l _ (relax_edge h)
    · exact fold_edge l _ hp (relax_le h)
theorem rnds_sound (n : Nat) : Sound ll d (rnds ll n [(d, 0)]) := by
  induction n with
  | zero =>
    intro x v e
    unfold rnds aget at e
    split at e
    · rename_i h
      cases e
      subst h
      exact ⟨[], .nil⟩
    · cases e
  | succ n ih => exact fold_sound ll _ (fun p hp => hp) ih
theorem rnds_full {n : Nat} : ∀ {r : List Str} {v : Int}, Pth ll d r v → ∀ x t, r = x :: t → t.length ≤ n → DLe (rnds ll n [(d, 0)]) x v := by
  induction n with
  | zero =>
    intro r v h x t e hl
    cases h with
    | nil => cases e; exact ⟨0, by unfold rnds aget; rw [if_pos rfl], Int.le_refl _⟩
    | cons _ _ => cases e; simp at hl
  | succ n ih =>
    intro r v h x t e hl
    cases h with
    | nil => cases e; exact fold_le ll _ (ih .nil d [] rfl (Nat.zero_le _))
    | @cons a b r w v hm t' =>
      cases e
      exact fold_edge ll _ (p := ((x, b), w)) hm (ih t' b r rfl (by simpa using hl))
/-- f is the distances to d -/
structure Dis (ll : Lens) (d : Str) (f : Dst) : Prop where
  snd : Sound ll d f
  all : ∀ x t v, Pth ll d (x :: t) v → DLe f x v
theorem dis_rnds {rs : List Str} (hp : ∀ p ∈ ll, 1 ≤ p.2) (hd : d ∈ rs) (he : ∀ p ∈ ll, p.1.1 ∈ rs ∧ p.1.2 ∈ rs) {n : Nat} (hn : rs.length ≤ n + 1) : Dis ll d (rnds ll n [(d, 0)]) := by
  refine ⟨rnds_sound n, fun x t v h => ?_⟩
  obtain ⟨s, u, h1, h2, h3⟩ := h.simple hp x t rfl
  refine (rnds_full h1 x s rfl ?_).mono h2
  have := h3.length_le_of_subset (fun y hy => h1.sub hd he y hy)
  rw [List.length_cons] at this
  omega
theorem Dis.unique {f g : Dst} (hf : Dis ll d f) (hg : Dis ll d g) (x : Str) : aget f x = aget g x := by
  have one : ∀ {f g : Dst}, Dis ll d f → Dis ll d g → ∀ v, aget f x = some v → ∃ u, aget g x = some u ∧ u ≤ v := fun {f g} hf hg v e => by
    obtain ⟨r, hr⟩ := hf.snd x v e
    exact hg.all x r v hr
  cases e : aget f x with
  | none => cases e2 : aget g x with
    | none => rfl
    | some u => obtain ⟨v, h, _⟩ := one hg hf u e2; rw [e] at h; cases h
  | some v =>
    obtain ⟨u, h1, h2⟩ := one hf hg v e
    obtain ⟨v', h3, h4⟩ := one hg hf u h1
    rw [e] at h3
    cases h3
    rw [h1]
    congr 1
    omega
theorem Dis.zero (hp : ∀ p ∈ ll, 1 ≤ p.2) {f : Dst} (hf : Dis ll d f) : aget f d = some 0 := by
  obtain ⟨u, h1, h2⟩ := hf.all d [] 0 .nil
  obtain ⟨r, hr⟩ := hf.snd d u h1
  have := hr.nonneg hp
  rw [h1]
  congr 1
  omega
theorem Dis.nonneg (hp : ∀ p ∈ ll, 1 ≤ p.2) {f : Dst} (hf : Dis ll d f) {x : Str} {v : Int} (h : aget f x = some v) : 0 ≤ v := by
  obtain ⟨r, hr⟩ := hf.snd x v h
  exact hr.nonneg hp
theorem Dis.pos (hp : ∀ p ∈ ll, 1 ≤ p.2) {f : Dst} (hf : Dis ll d f) {x : Str} {v : Int} (h : aget f x = some v) (ne : x ≠ d) : 1 ≤ v := by
  obtain ⟨r, hr⟩ := hf.snd x v h
  cases r with
  | nil => cases hr with | nil => exact absurd rfl ne
  | cons b r => exact hr.pos hp
/-- along a link -/
theorem Dis.edge {f : Dst} (hf : Dis ll d f) {a b : Str} {w v : Int} (hm : ((a, b), w) ∈ ll) (h : aget f b = some v) : ∃ u, aget f a = some u ∧ u ≤ w + v := by
  obtain ⟨r, hr⟩ := hf.snd b v h
  exact hf.all a (b :: r) (w + v) (.cons hm hr)
/-- nothing changes any more -/
theorem Dis.still {f : Dst} (hf : Dis ll d f) {p : (Str × Str) × Int} (hp : p ∈ ll) : relax f p = f := by
  unfold relax
  split
  · rfl
  · rename_i db hb
    obtain ⟨u, h1, h2⟩ := hf.edge (a := p.1.1) (b := p.1.2) (w := p.2) hp hb
    rw [h1]
    dsimp only
    rw [if_neg (by omega)]
end
/-! ### worlds -/
theorem lens_mem {ls : List Lk} {p : (Str × Str) × Int} (h : p ∈ lensOf ls) : ∃ l ∈ ls, p = ((l.1, l.2.1), l.2.2.1) ∨ p = ((l.2.1, l.1), l.2.2.2) := by
  unfold lensOf at h
  rw [List.mem_flatMap] at h
  obtain ⟨l, hl, h⟩ := h
  simp only [List.mem_cons, List.not_mem_nil, or_false] at h
  exact ⟨l, hl, h⟩
theorem lens_pos {B : Int} {rs : List Str} {ls : List Lk} (w : IsW B rs ls) : ∀ p ∈ lensOf ls, 1 ≤ p.2 := fun p hp => by
  obtain ⟨l, hl, rfl | rfl⟩ := lens_mem hp
  · exact (w.lk l hl).2.1
  · exact (w.lk l hl).2.2.2.1
theorem lens_le {B : Int} {rs : List Str} {ls : List Lk} (w : IsW B rs ls) : ∀ p ∈ lensOf ls, p.2 ≤ B := fun p hp => by
  obtain ⟨l, hl, rfl | rfl⟩ := lens_mem hp
  · exact (w.lk l hl).2.2.1
  · exact (w.lk l hl).2.2.2.2
theorem lens_in {B : Int} {rs : List Str} {ls : List Lk} (w : IsW B rs ls) : ∀ p ∈ lensOf ls, p.1.1 ∈ rs ∧ p.1.2 ∈ rs := fun p hp => by
  obtain ⟨l, hl, rfl | rfl⟩ := lens_mem hp
  · exact ⟨(w.lk l hl).1.1, (w.lk l hl).1.2.1⟩
  · exact ⟨(w.lk l hl).1.2.1, (w.lk l hl).1.1⟩
theorem lens_length (ls : List Lk) : (lensOf ls).length = 2 * ls.length := by
  unfold lensOf
  induction ls with
  | nil => rfl
  | cons l ls ih => rw [List.flatMap_cons, List.length_append, ih, List.length_cons]; simp; omega
theorem dis_world {B : Int} {rs : List Str} {ls : List Lk} (w : IsW B rs ls) {d : Str} (hd : d ∈ rs) {n : Nat} (hn : rs.length ≤ n + 1) : Dis (lensOf ls) d (rnds (lensOf ls) n [(d, 0)]) := dis_rnds (lens_pos w) hd (lens_in w) hn
theorem dis_prog {B : Int} {rs : List Str} {ls : List Lk} (w : IsW B rs ls) {d : Str} (hd : d ∈ rs) : Dis (lensOf ls) d (distOf rs.length (lensOf ls) d) := dis_world w hd (Nat.le_succ _)
end Q

set_option Elab.async false
set_option linter.all false
set_option maxRecDepth 100000
set_option maxHeartbeats 1000000
namespace Q
open PySem PySem.Spec PyProof.Rows L2
local macro_rules
  | `(tactic| exists run1) => `(tactic| (first
      | with_reducible refine Ex.seq ?_ | with_reducible refine Ex.set ?_ | with_reducible refine Ex.ret ?_ | with_reducible refine Ex.exp ?_ | with_reducible refine Ex.setOwn ?_ | with_reducible refine Ex.unpack ?_ | with_reducible refine Ex.par ?_ | with_reducible refine Ex.put ?_ | with_reducible refine Ex.app ?_ | with_reducible refine Ex.ext ?_ | with_reducible refine Ex.iff ?_ | with_reducible refine Ex.skip ?_ | with_reducible refine Ex.retN ?_ | with_reducible refine Ex.cont ?_ | with_reducible refine Ex.puts ?_ | with_reducible refine Ex.setA ?_ | with_reducible refine Ex.loop ?_
      | (with_reducible refine Ee.isv ?_; refine Ee.var rfl ?_)
      | with_reducible refine Ee.int ?_ | with_reducible refine Ee.bl ?_ | with_reducible refine Ee.str ?_ | with_reducible refine Ee.non ?_ | with_reducible refine Ee.tup ?_ | with_reducible refine Ee.lst ?_ | with_reducible refine Ee.bin ?_ | with_reducible refine Ee.neg ?_ | with_reducible refine Ee.cmp ?_ | with_reducible refine Ee.chain ?_ | with_reducible refine Ee.and ?_ | with_reducible refine Ee.or ?_ | with_reducible refine Ee.not ?_ | with_reducible refine Ee.ife ?_ | with_reducible refine Ee.sub ?_ | with_reducible refine Ee.slice ?_ | with_reducible refine Ee.rev ?_ | with_reducible refine Ee.sortset ?_ | with_reducible refine Ee.isi ?_ | with_reducible refine Ee.blt ?_ | with_reducible refine Ee.dct ?_ | with_reducible refine Ee.dnewT ?_ | with_reducible refine Ee.dnewK ?_
      | with_reducible refine El.cons ?_ | with_reducible refine El.nil ?_ | with_reducible refine Ep.nil ?_ | with_reducible refine Ep.val ?_ | with_reducible refine Ep.own ?_ | with_reducible refine Eo.no ?_ | with_reducible refine Eo.yes ?_ | with_reducible refine Eb.no ?_ | with_reducible refine Eb.yes ?_
      | with_reducible refine Ei.exv ?_ | with_reducible refine Ei.ex rfl ?_ | with_reducible refine Ei.rng1 ?_ | with_reducible refine Ei.rng2 ?_ | with_reducible refine Ei.enum ?_ | with_reducible refine Ei.zip ?_
      | with_reducible refine Aft.nx ?_ | with_reducible refine Aft.rt ?_ | with_reducible refine Aft.ct ?_ | with_reducible refine Trn.nx ?_ | with_reducible refine Trn.rt ?_ | with_reducible refine Trn.ct ?_ | with_reducible refine Fin.rt ?_ | with_reducible refine Fin.nx ?_
      | with_reducible refine Ts.mk ?_ | with_reducible refine Pt.mk ?_ | with_reducible refine exb ?_ | with_reducible refine exi ?_ | with_reducible refine exii ?_
      | with_reducible refine pr_add ?_ | with_reducible refine pr_sub ?_ | with_reducible refine pr_gt ?_ | with_reducible refine pr_le ?_ | with_reducible refine pr_ge ?_ | with_reducible refine pr_lt ?_ | with_reducible refine pr_lts ?_ | with_reducible refine pr_eqi ?_ | with_reducible refine pr_nei ?_ | with_reducible refine pr_eqs ?_ | with_reducible refine pr_nes ?_ | with_reducible refine pr_eqb ?_ | with_reducible refine pr_in ?_ | with_reducible refine pr_nin ?_
      | with_reducible refine pr_len_l ?_ | with_reducible refine pr_len_t ?_ | with_reducible refine pr_len_r ?_ | with_reducible refine pr_len_k ?_ | with_reducible refine pr_abs ?_ | with_reducible refine pr_max ?_ | with_reducible refine pr_min ?_ | with_reducible refine pr_int ?_ | with_reducible refine pr_intb ?_ | with_reducible refine pr_tup_l ?_ | with_reducible refine pr_list_l ?_ | with_reducible refine pr_list_t ?_ | with_reducible refine pr_sorted ?_ | with_reducible refine pr_repr ?_
      | with_reducible refine pr_items_l ?_ | with_reducible refine pr_items_t ?_ | with_reducible refine pr_keys_l ?_ | with_reducible refine pr_keys_t ?_ | with_reducible refine pr_keys_k ?_ | with_reducible refine pr_keys_kt ?_ | with_reducible refine pr_sl_l ?_ | with_reducible refine pr_sl_t ?_ | with_reducible refine pr_rev ?_ | with_reducible refine pr_bind1 ?_ | with_reducible refine pr_binds1 ?_
      | (with_reducible refine pr_cell (by assumption) ?_ ?_; exact rfl)
      | rw [sF_vals rfl]))
/-! ### next routers -/
def nxP (ll : Lens) (f : Dst) (r n : Str) : Bool := match aget ll (r, n), aget f n, aget f r with
  | some w, some dn, some dr => w + dn == dr
  | _, _, _ => false
def nxOf (rs : List Str) (ll : Lens) (f : Dst) (r : Str) : List Str := if (aget f r).getD 0 = 0 then [] else rs.filter (nxP ll f r)
theorem int_getD (o : Option Int) : (o.map D.int).getD (.int 0) = .int (o.getD 0) := by cases o <;> rfl
def P_nby (m : FS) : Prop := ∀ (st : Store) (rs : List Str) (ll : Lens) (f : Dst) (r : Str) (Q : D → Store → Prop), Q (rsD (nxOf rs ll f r)) st → Cl m [rsD rs, lD ll, dS D.int f, .str r] st Q
theorem nby_ok {T : Tab} : P_nby (den T N_nexts_by 4 c_nexts_by) := by
  intro st rs ll f r Q k
  refine Cl.den rfl (i_nexts_by _ _ _ _) ?_
  unfold c_nexts_by rsD lD
  (repeat (exists run1))
  refine Ee.mcall ?_
  (repeat (exists run1))
  refine ⟨rfl, ?_⟩
  (repeat (exists run1))
  refine pr_getS2 ?_
  rw [int_getD]
  (repeat (exists run1))
  refine ⟨fun h => ?_, fun h => ?_⟩
  · (repeat (exists run1))
    unfold nxOf at k
    rw [if_pos (by simpa using h)] at k
    exact k
  · have h0 : ¬ (aget f r).getD 0 = 0 := by simpa using h
    have hr : ∃ dr, aget f r = some dr := by
      cases e : aget f r with
      | none => rw [e] at h0; exact absurd rfl h0
      | some v => exact ⟨v, rfl⟩
    obtain ⟨dr, hr⟩ := hr
    (repeat (exists run1))
    refine Ee.comp_map rs D.str (fun n => (aget ll (r, n)).isSome && (aget f n).isSome) D.str ?_
    (repeat (exists run1))
    refine ⟨rfl, fun n hn => ?_, ?_⟩
    · unfold Cp
      (repeat (exists run1))
      refine pr_inP ?_
      (repeat (exists run1))
      refine ⟨fun h1 => ?_, fun h1 => ?_⟩
      · rw [h1]
        (repeat (exists run1))
        refine pr_inS ?_
        (repeat (exists run1))
        refine ⟨fun h2 => ?_, fun h2 => ?_⟩
        · rw [h2]
          (repeat (exists run1))
          exact ⟨rfl, rfl⟩
        · rw [h2]
          exact ⟨rfl, rfl⟩
      · rw [h1]
        refine exb ⟨fun h2 => (by cases h2), fun _ => ⟨rfl, rfl⟩⟩
    · (repeat (exists run1))
      refine Ee.comp_map (rs.filter fun n => (aget ll (r, n)).isSome && (aget f n).isSome) D.str (nxP ll f r) D.str ?_
      (repeat (exists run1))
      refine ⟨rfl, fun n hn => ?_, ?_⟩
      · rw [List.mem_filter, Bool.and_eq_true] at hn
        obtain ⟨w, hw⟩ := Option.isSome_iff_exists.mp hn.2.1
        obtain ⟨dn, hdn⟩ := Option.isSome_iff_exists.mp hn.2.2
        unfold Cp
        have e : nxP ll f r n = (w + dn == dr) := by unfold nxP; rw [hw, hdn, hr]
        (repeat (first | exists run1 | refine pr_subP hw ?_ | refine pr_subS hdn ?_ | refine pr_subS hr ?_))
        refine ⟨fun h1 => ?_, fun h1 => ?_⟩
        · (repeat (exists run1))
          rw [e, h1]
          exact ⟨rfl, rfl⟩
        · rw [e, h1]
          exact ⟨rfl, rfl⟩
      · (repeat (exists run1))
        have e : (rs.filter fun n => (aget ll (r, n)).isSome && (aget f n).isSome).filter (nxP ll f r) = rs.filter (nxP ll f r) := by
          rw [List.filter_filter]
          refine List.filter_congr fun n _ => ?_
          unfold nxP
          cases aget ll (r, n) <;> cases aget f n <;> simp
        rw [e]
        unfold nxOf at k
        rw [if_neg h0] at k
        exact k
/-! ### tables -/
abbrev Tbl := List ((Str × Str) × List Str)
def tabs (N : Str → Str → List Str) (rs ds : List Str) : Tbl := ds.flatMap fun d => rs.map fun r => ((r, d), N r d)
theorem mem_tabs {N : Str → Str → List Str} {rs ds : List Str} {k : Str × Str} : k ∈ (tabs N rs ds).map (·.1) ↔ k.1 ∈ rs ∧ k.2 ∈ ds := by
  unfold tabs
  simp only [List.mem_map, List.mem_flatMap]
  constructor
  · rintro ⟨p, ⟨d, hd, r, hr, rfl⟩, rfl⟩
    exact ⟨hr, hd⟩
  · rintro ⟨h1, h2⟩
    exact ⟨((k.1, k.2), N k.1 k.2), ⟨k.2, h2, k.1, h1, rfl⟩, rfl⟩
theorem get_tabs {N : Str → Str → List Str} {rs ds : List Str} {r d : Str} (hr : r ∈ rs) (hd : d ∈ ds) : aget (tabs N rs ds) (r, d) = some (N r d) := by
  cases e : aget (tabs N rs ds) (r, d) with
  | none => exact absurd (mem_tabs.mpr ⟨hr, hd⟩) (aget_none.mp e)
  | some v =>
    have := aget_mem e
    unfold tabs at this
    rw [List.mem_flatMap] at this
    obtain ⟨d', _, h⟩ := this
    obtain ⟨r', _, h⟩ := List.mem_map.mp h
    cases h
    rfl
theorem tabs_congr {N M : Str → Str → List Str} {rs ds : List Str} (h : ∀ r ∈ rs, ∀ d ∈ ds, N r d = M r d) : tabs N rs ds = tabs M rs ds := by
  unfold tabs
  rw [List.flatMap_def, List.flatMap_def]
  congr 1
  refine List.map_congr_left fun d hd => List.map_congr_left fun r hr => ?_
  rw [h r hr d hd]
theorem tabs_len {N : Str → Str → List Str} {rs : List Str} : ∀ {ds : List Str}, (tabs N rs ds).length = ds.length * rs.length
  | [] => by simp [tabs]
  | d :: ds => by
    have := tabs_len (N := N) (rs := rs) (ds := ds)
    unfold tabs at this ⊢
    rw [List.flatMap_cons, List.length_append, this, List.length_map, List.length_cons, Nat.succ_mul, Nat.add_comm]
def tD (t : Tbl) : D := dP rsD t
/-- one more row -/
theorem tabs_put {N : Str → Str → List Str} {rs ds : List Str} {d : Str} {i : Nat} {r : Str} (nd : rs.Nodup) (hd : d ∉ ds) (hr : rs[i]? = some r) :
    aput (tabs N rs ds ++ (rs.take i).map fun r => ((r, d), N r d)) (r, d) (N r d) = tabs N rs ds ++ (rs.take (i + 1)).map fun r => ((r, d), N r d) := by
  rw [aput_new]
  · rw [List.take_succ, hr, List.map_append, List.append_assoc]; rfl
  · intro hm
    rw [List.map_append, List.mem_append] at hm
    rcases hm with hm | hm
    · exact hd (mem_tabs.mp hm).2
    · obtain ⟨p, hp, e⟩ := List.mem_map.mp hm
      obtain ⟨r', hr', rfl⟩ := List.mem_map.mp hp
      cases e
      obtain ⟨j, hj, ej⟩ := List.mem_iff_getElem.mp hr'
      rw [List.getElem_take] at ej
      rw [List.length_take] at hj
      obtain ⟨hi, e2⟩ := List.getElem?_eq_some_iff.mp hr
      have := (List.getElem_inj nd).mp (ej.trans e2.symm)
      omega
theorem tabs_next {N : Str → Str → List Str} {rs : List Str} {i : Nat} {d : Str} (h : rs[i]? = some d) : tabs N rs (rs.take i) ++ rs.map (fun r => ((r, d), N r d)) = tabs N rs (rs.take (i + 1)) := by
  unfold tabs
  rw [List.take_succ, h, List.flatMap_append]
  simp
theorem take_not {rs : List Str} {i : Nat} {d : Str} (nd : rs.Nodup) (h : rs[i]? = some d) : d ∉ rs.take i := fun hm => by
  obtain ⟨j, hj, ej⟩ := List.mem_iff_getElem.mp hm
  rw [List.getElem_take] at ej
  rw [List.length_take] at hj
  obtain ⟨hi, e2⟩ := List.getElem?_eq_some_iff.mp h
  have := (List.getElem_inj nd).mp (ej.trans e2.symm)
  omega
def nxL (rs : List Str) (ll : Lens) (r d : Str) : List Str := nxOf rs ll (distOf rs.length ll d) r
def P_tabs (m : FS) : Prop := ∀ (st : Store) (rs : List Str) (ll : Lens) (Q : D → Store → Prop), rs.Nodup → rs.length ≤ 8 → ll.length ≤ 100 → (ll.map (·.1)).Nodup → Q (tD (tabs (nxL rs ll) rs rs)) st → Cl m [rsD rs, lD ll] st Q
set_option maxHeartbeats 4000000 in
theorem tabs_ok {T : Tab} (h1 : Has T "distances_to" P_dist) (h2 : Has T "nexts_by" P_nby) : P_tabs (den T N_tables_by 2 c_tables_by) := by
  intro st rs ll Q nd h8 h100 ndl k
  refine Cl.den rfl (i_tables_by _ _) ?_
  unfold c_tables_by rsD
  (repeat (exists run1))
  refine ⟨rfl, ?_⟩
  (repeat (exists run1))
  refine Lp.inv (fun i e s => (∃ s3 s4 s5, e = [.val (.tup (rs.map D.str)), .val (lD ll), .own (tD (tabs (nxL rs ll) rs (rs.take i))), s3, s4, s5]) ∧ s = st) ⟨⟨.un, .un, .un, rfl⟩, rfl⟩ ?_ ?_
  · rintro i x e s hx ⟨⟨s3, s4, s5, rfl⟩, rfl⟩
    rw [List.getElem?_map] at hx
    obtain ⟨d, hd, rfl⟩ := Option.map_eq_some_iff.mp hx
    have hi : i < rs.length := (List.getElem?_eq_some_iff.mp hd).1
    (repeat (exists run1))
    refine Ee.callH h1 fun m hm => ?_
    (repeat (exists run1))
    refine hm _ rs ll d _ h8 h100 ndl ?_
    (repeat (exists run1))
    refine Lp.inv (fun j e s' => (∃ s5, e = [.val (.tup (rs.map D.str)), .val (lD ll), .own (tD (tabs (nxL rs ll) rs (rs.take i) ++ (rs.take j).map fun r => ((r, d), nxL rs ll r d))), .val (.str d), .val (dS D.int (distOf rs.length ll d)), s5]) ∧ s' = s) ⟨⟨s5, by rw [List.take_zero, List.map_nil, List.append_nil]; rfl⟩, rfl⟩ ?_ ?_
    · rintro j y e s' hy ⟨⟨s5', rfl⟩, rfl⟩
      rw [List.getElem?_map] at hy
      obtain ⟨r, hr, rfl⟩ := Option.map_eq_some_iff.mp hy
      have hj : j < rs.length := (List.getElem?_eq_some_iff.mp hr).1
      (repeat (exists run1))
      refine Ee.callH h2 fun m2 hm2 => ?_
      (repeat (exists run1))
      refine hm2 _ rs ll _ r _ ?_
      (repeat (exists run1))
      refine pr_putP (vf := rsD) rfl ?_ ?_
      · rw [List.length_append, tabs_len, List.length_map, List.length_take, List.length_take, sizeLine_eq]
        have : min i rs.length * rs.length ≤ 8 * 8 := Nat.mul_le_mul (by omega) h8
        omega
      · refine Trn.nx ⟨⟨.val (.str r), ?_⟩, rfl⟩
        rw [← tabs_put nd (take_not nd hd) hr]
        rfl
    · rintro e s' ⟨⟨s5', rfl⟩, rfl⟩
      rw [List.length_map, List.take_length, tabs_next hd]
      refine Trn.nx ⟨⟨_, _, _, rfl⟩, rfl⟩
  · rintro e s ⟨⟨s3, s4, s5, rfl⟩, rfl⟩
    rw [List.length_map, List.take_length]
    (repeat (exists run1))
    exact k
def nx (rs : List Str) (ls : List Lk) : Str → Str → List Str := nxL rs (lensOf ls)
def tb (rs : List Str) (ls : List Lk) : Tbl := tabs (nx rs ls) rs rs
def P_ntab (m : FS) : Prop := ∀ (st : Store) (B : Int) (rs : List Str) (ls : List Lk) (Q : D → Store → Prop), IsW B rs ls → Q (tD (tb rs ls)) st → Cl m [netD rs ls] st Q
theorem lens100 {B : Int} {rs : List Str} {ls : List Lk} (w : IsW B rs ls) : (lensOf ls).length ≤ 100 := by rw [lens_length]; have := w.few; omega
theorem ntab_ok {T : Tab} (hN : NetT T) (h1 : Has T "tables_by" P_tabs) (h2 : Has T "lengths_of" P_lens) : P_ntab (den T N_next_tables 1 c_next_tables) := by
  intro st B rs ls Q w k
  refine Cl.den rfl (i_next_tables _) ?_
  unfold c_next_tables
  (repeat (exists run1))
  refine Ee.callH h1 fun m hm => ?_
  (repeat (exists run1))
  refine Ee.routers hN ?_
  (repeat (exists run1))
  refine ⟨rs, ls, rfl, ?_⟩
  (repeat (exists run1))
  refine Ee.callH h2 fun m2 hm2 => ?_
  (repeat (exists run1))
  refine hm2 _ B rs ls _ w ?_
  (repeat (exists run1))
  exact hm _ rs _ _ (pw_nodup w.asc) w.eight (lens100 w) (lens_keys w) (Fin.rt k)
def P_nexts (m : FS) : Prop := ∀ (st : Store) (B : Int) (rs : List Str) (ls : List Lk) (a d : Str) (Q : D → Store → Prop), IsW B rs ls → a ∈ rs → d ∈ rs → Q (rsD (nx rs ls a d)) st → Cl m [netD rs ls, .str a, .str d] st Q
theorem nexts_ok {T : Tab} (h1 : Has T "check_routers" P_check) (h2 : Has T "next_tables" P_ntab) : P_nexts (den T N_nexts 3 c_nexts) := by
  intro st B rs ls a d Q w ha hd k
  refine Cl.den rfl (i_nexts _ _ _) ?_
  unfold c_nexts
  (repeat (exists run1))
  refine Ee.callH h1 fun m hm => ?_
  (repeat (exists run1))
  refine hm _ rs ls [a, d] _ w.names (fun s hs => ?_) ?_
  · simp only [List.mem_cons, List.not_mem_nil, or_false] at hs
    rcases hs with rfl | rfl
    · exact ha
    · exact hd
  (repeat (exists run1))
  refine Ee.callH h2 fun m2 hm2 => ?_
  (repeat (exists run1))
  refine hm2 _ B rs ls _ w ?_
  (repeat (exists run1))
  exact pr_subP (vf := rsD) (get_tabs ha hd) (Fin.rt k)
end Q

set_option Elab.async false
set_option linter.all false
set_option maxRecDepth 100000
set_option maxHeartbeats 1000000
namespace Q
open PySem PySem.Spec PyProof.Rows L2
local macro_rules
  | `(tactic| exists run1) => `(tactic| (first
      | with_reducible refine Ex.seq ?_ | with_reducible refine Ex.set ?_ | with_reducible refine Ex.ret ?_ | with_reducible refine Ex.exp ?_ | with_reducible refine Ex.setOwn ?_ | with_reducible refine Ex.unpack ?_ | with_reducible refine Ex.par ?_ | with_reducible refine Ex.put ?_ | with_reducible refine Ex.app ?_ | with_reducible refine Ex.ext ?_ | with_reducible refine Ex.iff ?_ | with_reducible refine Ex.skip ?_ | with_reducible refine Ex.retN ?_ | with_reducible refine Ex.cont ?_ | with_reducible refine Ex.puts ?_ | with_reducible refine Ex.setA ?_ | with_reducible refine Ex.loop ?_
      | (with_reducible refine Ee.isv ?_; refine Ee.var rfl ?_)
      | with_reducible refine Ee.int ?_ | with_reducible refine Ee.bl ?_ | with_reducible refine Ee.str ?_ | with_reducible refine Ee.non ?_ | with_reducible refine Ee.tup ?_ | with_reducible refine Ee.lst ?_ | with_reducible refine Ee.bin ?_ | with_reducible refine Ee.neg ?_ | with_reducible refine Ee.cmp ?_ | with_reducible refine Ee.chain ?_ | with_reducible refine Ee.and ?_ | with_reducible refine Ee.or ?_ | with_reducible refine Ee.not ?_ | with_reducible refine Ee.ife ?_ | with_reducible refine Ee.sub ?_ | with_reducible refine Ee.slice ?_ | with_reducible refine Ee.rev ?_ | with_reducible refine Ee.sortset ?_ | with_reducible refine Ee.isi ?_ | with_reducible refine Ee.blt ?_ | with_reducible refine Ee.dct ?_ | with_reducible refine Ee.dnewT ?_ | with_reducible refine Ee.dnewK ?_
      | with_reducible refine El.cons ?_ | with_reducible refine El.nil ?_ | with_reducible refine Ep.nil ?_ | with_reducible refine Ep.val ?_ | with_reducible refine Ep.own ?_ | with_reducible refine Eo.no ?_ | with_reducible refine Eo.yes ?_ | with_reducible refine Eb.no ?_ | with_reducible refine Eb.yes ?_
      | with_reducible refine Ei.exv ?_ | with_reducible refine Ei.ex rfl ?_ | with_reducible refine Ei.rng1 ?_ | with_reducible refine Ei.rng2 ?_ | with_reducible refine Ei.enum ?_ | with_reducible refine Ei.zip ?_
      | with_reducible refine Aft.nx ?_ | with_reducible refine Aft.rt ?_ | with_reducible refine Aft.ct ?_ | with_reducible refine Trn.nx ?_ | with_reducible refine Trn.rt ?_ | with_reducible refine Trn.ct ?_ | with_reducible refine Fin.rt ?_ | with_reducible refine Fin.nx ?_
      | with_reducible refine Ts.mk ?_ | with_reducible refine Pt.mk ?_ | with_reducible refine exb ?_ | with_reducible refine exi ?_ | with_reducible refine exii ?_
      | with_reducible refine pr_add ?_ | with_reducible refine pr_sub ?_ | with_reducible refine pr_gt ?_ | with_reducible refine pr_le ?_ | with_reducible refine pr_ge ?_ | with_reducible refine pr_lt ?_ | with_reducible refine pr_lts ?_ | with_reducible refine pr_eqi ?_ | with_reducible refine pr_nei ?_ | with_reducible refine pr_eqs ?_ | with_reducible refine pr_nes ?_ | with_reducible refine pr_eqb ?_ | with_reducible refine pr_in ?_ | with_reducible refine pr_nin ?_
      | with_reducible refine pr_len_l ?_ | with_reducible refine pr_len_t ?_ | with_reducible refine pr_len_r ?_ | with_reducible refine pr_len_k ?_ | with_reducible refine pr_abs ?_ | with_reducible refine pr_max ?_ | with_reducible refine pr_min ?_ | with_reducible refine pr_int ?_ | with_reducible refine pr_intb ?_ | with_reducible refine pr_tup_l ?_ | with_reducible refine pr_list_l ?_ | with_reducible refine pr_list_t ?_ | with_reducible refine pr_sorted ?_ | with_reducible refine pr_repr ?_
      | with_reducible refine pr_items_l ?_ | with_reducible refine pr_items_t ?_ | with_reducible refine pr_keys_l ?_ | with_reducible refine pr_keys_t ?_ | with_reducible refine pr_keys_k ?_ | with_reducible refine pr_keys_kt ?_ | with_reducible refine pr_sl_l ?_ | with_reducible refine pr_sl_t ?_ | with_reducible refine pr_rev ?_ | with_reducible refine pr_bind1 ?_ | with_reducible refine pr_binds1 ?_
      | (with_reducible refine pr_cell (by assumption) ?_ ?_; exact rfl)
      | rw [sF_vals rfl]))
/-! ### the law's own tables -/
theorem Pts.i_sub {T : Tab} {i : Nat} {k : CE} {ks : List (Nat × Option CE)} {d : D} {ds : List D} {env : List Sl} {st : Store} {Q : List Sl → Store → Prop} (h : Pt T i k d env st fun e s => Pts T ks ds e s Q) : Pts T ((i, some k) :: ks) (d :: ds) env st Q := h
theorem Pts.i_nm {T : Tab} {i : Nat} {ks : List (Nat × Option CE)} {d : D} {ds : List D} {env : List Sl} {st : Store} {Q : List Sl → Store → Prop} (h : Pts T ks ds (env.set i (.val d)) st Q) : Pts T ((i, none) :: ks) (d :: ds) env st Q := h
theorem Pts.i_nil {T : Tab} {env : List Sl} {st : Store} {Q : List Sl → Store → Prop} (h : Q env st) : Pts T [] [] env st Q := h
theorem pr_listP {α : Type} {vf : α → D} {pl : List ((Str × Str) × α)} {Q : D → Prop} (h : Q (.lst (pl.map fun p => pairD p.1))) : Pr (bltD "list" [dP vf pl]) Q := by
  refine ⟨_, bl_list_kt, ?_⟩
  rw [List.map_map]
  exact h
theorem pr_listS {α : Type} {vf : α → D} {al : List (Str × α)} {Q : D → Prop} (h : Q (.lst (al.map fun p => .str p.1))) : Pr (bltD "list" [dS vf al]) Q := by
  refine ⟨_, bl_list_k, ?_⟩
  rw [List.map_map]
  exact h
def P_made (m : FS) : Prop := ∀ (st : Store) (B : Int) (rs : List Str) (ls : List Lk) (Q : D → Store → Prop), IsW B rs ls → Q (netD rs ls) st → Cl m [worldD rs ls] st Q
theorem made_ok {T : Tab} (h1 : Has T "Net" P_net) : P_made (den T N__law_made 1 c__law_made) := by
  intro st B rs ls Q w k
  refine Cl.den rfl (i__law_made _) ?_
  unfold c__law_made worldD
  (repeat (exists run1))
  refine Ee.callH h1 fun m hm => ?_
  (repeat (first | exists run1 | refine pr_subt rfl ?_))
  exact hm _ B rs ls _ w (Fin.rt k)
def P_llens (m : FS) : Prop := ∀ (st : Store) (B : Int) (rs : List Str) (ls : List Lk) (Q : D → Store → Prop), IsW B rs ls → Q (lD (lensOf ls)) st → Cl m [lsD ls] st Q
theorem llens_ok {T : Tab} : P_llens (den T N__law_lengths 1 c__law_lengths) := by
  intro st B rs ls Q w k
  refine Cl.den rfl (i__law_lengths _) ?_
  unfold c__law_lengths lsD
  (repeat (exists run1))
  refine ⟨rfl, ?_⟩
  (repeat (exists run1))
  have few := w.few
  refine Lp.inv (fun i e s => (∃ s2 s3 s4 s5, e = [.val (.tup (ls.map lkD)), .own (lD ((ls.take i).foldl stepL [])), s2, s3, s4, s5]) ∧ s = st) ⟨⟨.un, .un, .un, .un, rfl⟩, rfl⟩ ?_ ?_
  · rintro i d e s hd ⟨⟨s2, s3, s4, s5, rfl⟩, rfl⟩
    rw [List.getElem?_map] at hd
    obtain ⟨l, hl, rfl⟩ := Option.map_eq_some_iff.mp hd
    have hi : i < ls.length := (List.getElem?_eq_some_iff.mp hl).1
    have len := fold_len (ls.take i) []
    rw [List.length_take, List.length_nil] at len
    refine pr_bindsn rfl ?_
    (repeat (exists run1))
    refine Pts.i_sub ?_
    (repeat (exists run1))
    refine pr_putP (vf := D.int) rfl (by rw [sizeLine_eq]; omega) ?_
    refine Pts.i_sub ?_
    (repeat (exists run1))
    refine pr_putP (vf := D.int) rfl (Nat.lt_of_le_of_lt aput_len (by rw [sizeLine_eq]; omega)) ?_
    refine Pts.i_nil (Trn.nx ⟨⟨.val (.str l.1), .val (.str l.2.1), .val (.int l.2.2.1), .val (.int l.2.2.2), ?_⟩, rfl⟩)
    rw [List.take_succ, hl, List.foldl_append]
    rfl
  · rintro e s ⟨⟨s2, s3, s4, s5, rfl⟩, rfl⟩
    rw [List.length_map, List.take_length, lens_fold ls [] (lens_keys w)]
    (repeat (exists run1))
    exact k
theorem still_dis {ll : Lens} {d : Str} {f : Dst} (hs : Sound ll d f) (h0 : DLe f d 0) (h : ∀ q ∈ ll, relax f q = f) : Dis ll d f := by
  refine ⟨hs, ?_⟩
  have go : ∀ {r : List Str} {v : Int}, Pth ll d r v → ∀ x t, r = x :: t → DLe f x v := by
    intro r v hp
    induction hp with
    | nil => intro x t e; cases e; exact h0
    | @cons a b r w v hm t ih =>
      intro x t' e
      have e1 : a = x := (List.cons.inj e).1
      have := relax_edge (p := ((a, b), w)) (ih b r rfl)
      rw [h _ hm] at this
      rw [← e1]
      exact this
  exact fun x t v hp => go hp x t rfl
def P_farfrom (m : FS) : Prop := ∀ (st : Store) (B : Int) (rs : List Str) (ls : List Lk) (d : Str) (Q : D → Store → Prop), IsW B rs ls → d ∈ rs → (∀ f, Dis (lensOf ls) d f → Q (dS D.int f) st) → Cl m [rsD rs, lD (lensOf ls), .str d] st Q
set_option maxHeartbeats 8000000 in
theorem farfrom_ok {T : Tab} : P_farfrom (den T N__law_far_from 3 c__law_far_from) := by
  intro st B rs ls d Q w hd k
  have nd := lens_keys w
  have h100 := lens100 w
  have dis8 : ∀ i, 8 ≤ i → Dis (lensOf ls) d (rnds (lensOf ls) i [(d, 0)]) := fun i hi => dis_world w hd (by have := w.eight; omega)
  generalize lensOf ls = ll at nd h100 dis8 k
  refine Cl.den rfl (i__law_far_from _ _ _) ?_
  unfold c__law_far_from
  (repeat (exists run1))
  refine Pr.of rfl ⟨rfl, ?_⟩
  (repeat (exists run1))
  refine ⟨rfl, ?_⟩
  refine Aft.nx (Ex.seq (Ex.whl (fun kk e s => ∃ (i : Nat) (dn : Bool) (s5 s6 s7 : Sl), e = [.val (rsD rs), .val (lD ll), .val (.str d), .own (dS D.int (rnds ll i [(d, 0)])), .val (.bl dn), s5, s6, s7] ∧ s = st ∧ i ≤ 9 ∧ (dn = true → kk = 0 ∧ Dis ll d (rnds ll i [(d, 0)])) ∧ (dn = false → kk = 10 - i)) 10 ⟨0, false, .un, .un, .un, rfl, rfl, by decide, fun h => (by cases h), fun _ => rfl⟩ ?_))
  rintro kk e s ⟨i, dn, s5, s6, s7, rfl, rfl, hi, hd1, hd2⟩
  (repeat (exists run1))
  refine ⟨fun hdn => ?_, fun hdn => ?_⟩
  · have hdn : dn = false := by cases dn <;> simp_all
    subst hdn
    have hk := hd2 rfl
    have lenF2 : (rnds ll i [(d, 0)]).length ≤ 901 := by
      have lenF := rnds_len ll [(d, 0)] i
      have : i * ll.length ≤ 9 * 100 := Nat.mul_le_mul hi h100
      simp only [List.length_cons, List.length_nil] at lenF
      omega
    have sF := rnds_sound (ll := ll) (d := d) i
    have zF : DLe (rnds ll i [(d, 0)]) d 0 := rnds_full .nil d [] rfl (Nat.zero_le _)
    have hdis := dis8 i
    generalize hF : rnds ll i [(d, 0)] = F at lenF2 sF zF hdis
    (repeat (exists run1))
    unfold lD
    refine pr_listP ?_
    (repeat (exists run1))
    refine Lp.inv (fun j e s' => (∃ s5 s6 s7 G bb, e = [.val (rsD rs), .val (dP D.int ll), .val (.str d), .own (dS D.int G), .val (.bl bb), s5, s6, s7] ∧ G = (ll.take j).foldl relax F ∧ (bb = true → G = F ∧ ∀ q ∈ ll.take j, relax F q = F) ∧ (Dis ll d F → bb = true)) ∧ s' = s) ⟨⟨s5, s6, s7, F, true, rfl, rfl, fun _ => ⟨rfl, fun q hq => absurd hq List.not_mem_nil⟩, fun _ => rfl⟩, rfl⟩ ?_ ?_
    · rintro j y e s' hy ⟨⟨s5', s6', s7', G, bb, rfl, hG, hb1, hb2⟩, rfl⟩
      rw [List.getElem?_map] at hy
      obtain ⟨p, hp, rfl⟩ := Option.map_eq_some_iff.mp hy
      have hj : j < ll.length := (List.getElem?_eq_some_iff.mp hp).1
      have hpm : p ∈ ll := List.mem_of_getElem? hp
      have hget : aget ll (p.1.1, p.1.2) = some p.2 := aget_of nd hpm
      have lenG : G.length < sizeLine := by
        have := rnd_len (ll.take j) F
        unfold rnd at this
        rw [List.length_take, ← hG] at this
        rw [sizeLine_eq]; omega
      have nxt : (ll.take (j + 1)).foldl relax F = relax G p := by rw [List.take_succ, hp, List.foldl_append, ← hG]; rfl
      have mem1 : ∀ q, q ∈ ll.take (j + 1) → q ∈ ll.take j ∨ q = p := fun q hq => by
        rw [List.take_succ, hp, List.mem_append] at hq
        exact hq.imp id fun h => by simpa using h
      rw [nxt]
      -- nothing changed
      have same : relax G p = G → ∃ s5 s6 s7 G' bb', [Sl.val (rsD rs), .val (dP D.int ll), .val (.str d), .own (dS D.int G), .val (.bl bb), .val (.str p.1.1), .val (.str p.1.2), .val (.int (p.2 + (aget G p.1.2).getD 0))] = [Sl.val (rsD rs), .val (dP D.int ll), .val (.str d), .own (dS D.int G'), .val (.bl bb'), s5, s6, s7] ∧ G' = relax G p ∧ (bb' = true → G' = F ∧ ∀ q ∈ ll.take (j + 1), relax F q = F) ∧ (Dis ll d F → bb' = true) := fun hs => by
        refine ⟨_, _, _, G, bb, rfl, hs.symm, fun hbb => ?_, hb2⟩
        obtain ⟨e1, e2⟩ := hb1 hbb
        refine ⟨e1, fun q hq => ?_⟩
        rcases mem1 q hq with h | h
        · exact e2 q h
        · subst h; rw [e1] at hs; exact hs
      refine pr_bindsn rfl ?_
      (repeat (first | exists run1 | refine pr_subP hget ?_))
      refine Ee.mcall ?_
      (repeat (exists run1))
      refine ⟨rfl, ?_⟩
      (repeat (exists run1))
      refine pr_getS2 ?_
      rw [int_getD]
      (repeat (exists run1))
      refine pr_inS ?_
      (repeat (exists run1))
      refine ⟨fun hb => ?_, fun hb => ?_⟩
      · obtain ⟨db, hdb⟩ := Option.isSome_iff_exists.mp hb
        (repeat (exists run1))
        refine pr_inS ?_
        (repeat (exists run1))
        refine ⟨fun ha => ?_, fun ha => ?_⟩
        · have ha2 : (aget G p.1.1).isSome = true := by
            cases h : (aget G p.1.1).isSome with
            | true => rfl
            | false => rw [h] at ha; cases ha
          obtain ⟨da, hda⟩ := Option.isSome_iff_exists.mp ha2
          (repeat (first | exists run1 | refine pr_subS hda ?_))
          have eg : (aget G p.1.2).getD 0 = db := by rw [hdb]; rfl
          refine ⟨fun hl => ?_, fun hl => ?_⟩
          · have hl := of_decide_eq_true hl
            (repeat (exists run1))
            refine Pts.i_sub ?_
            (repeat (exists run1))
            refine pr_putS (vf := D.int) rfl lenG ?_
            refine Pts.i_nm (Pts.i_nil (Trn.nx ⟨⟨.val (.str p.1.1), .val (.str p.1.2), .val (.int (p.2 + (aget G p.1.2).getD 0)), relax G p, false, ?_, rfl, fun h => (by cases h), fun hD => ?_⟩, rfl⟩))
            · rw [eg] at hl ⊢
              unfold relax
              rw [hdb, hda]
              dsimp only
              rw [if_pos hl]
              rfl
            · exfalso
              have e1 := (hb1 (hb2 hD)).1
              rw [e1] at hdb hda
              rw [eg] at hl
              obtain ⟨u, h1, h2⟩ := hD.edge (a := p.1.1) (b := p.1.2) (w := p.2) hpm hdb
              rw [hda] at h1
              cases h1
              omega
          · have hl := of_decide_eq_false hl
            rw [eg] at hl
            (repeat (exists run1))
            refine ⟨same ?_, rfl⟩
            unfold relax
            rw [hdb, hda]
            dsimp only
            rw [if_neg hl]
        · have ha2 : aget G p.1.1 = none := by
            cases h : aget G p.1.1 with
            | none => rfl
            | some z => rw [h] at ha; cases ha
          have eg : (aget G p.1.2).getD 0 = db := by rw [hdb]; rfl
          refine exb ⟨fun _ => ?_, fun h => (by cases h)⟩
          (repeat (exists run1))
          refine Pts.i_sub ?_
          (repeat (exists run1))
          refine pr_putS (vf := D.int) rfl lenG ?_
          refine Pts.i_nm (Pts.i_nil (Trn.nx ⟨⟨.val (.str p.1.1), .val (.str p.1.2), .val (.int (p.2 + (aget G p.1.2).getD 0)), relax G p, false, ?_, rfl, fun h => (by cases h), fun hD => ?_⟩, rfl⟩))
          · rw [eg]
            unfold relax
            rw [hdb, ha2]
            rfl
          · exfalso
            have e1 := (hb1 (hb2 hD)).1
            rw [e1] at hdb ha2
            obtain ⟨u, h1, h2⟩ := hD.edge (a := p.1.1) (b := p.1.2) (w := p.2) hpm hdb
            rw [ha2] at h1
            cases h1
      · have hb2' : aget G p.1.2 = none := by
          cases h : aget G p.1.2 with
          | none => rfl
          | some z => rw [h] at hb; cases hb
        refine exb ⟨fun h => (by cases h), fun _ => ?_⟩
        (repeat (exists run1))
        refine ⟨same ?_, rfl⟩
        unfold relax
        rw [hb2']
    · rintro e s' ⟨⟨s5', s6', s7', G, bb, rfl, hG, hb1, hb2⟩, rfl⟩
      rw [List.length_map, List.take_length] at hG hb1
      have hGr : G = rnds ll (i + 1) [(d, 0)] := by rw [rnds, hF]; exact hG
      by_cases hbb : bb = true
      · obtain ⟨e1, e2⟩ := hb1 hbb
        have hD : Dis ll d G := by rw [e1]; exact still_dis sF zF e2
        by_cases hi9 : i + 1 ≤ 9
        · refine Trn.nx ⟨0, by omega, i + 1, true, s5', s6', s7', by rw [hbb, hGr], rfl, hi9, fun _ => ⟨rfl, by rw [← hGr]; exact hD⟩, fun h => (by cases h)⟩
        · refine Trn.nx ⟨0, by omega, i, true, s5', s6', s7', by rw [hbb, e1, hF], rfl, hi, fun _ => ⟨rfl, by rw [hF, ← e1]; exact hD⟩, fun h => (by cases h)⟩
      · have hbb : bb = false := Bool.eq_false_iff.mpr hbb
        have hi8 : i < 8 := Decidable.byContradiction fun h => by
          have := hb2 (hdis (by omega))
          rw [hbb] at this
          cases this
        exact Trn.nx ⟨10 - (i + 1), by omega, i + 1, false, s5', s6', s7', by rw [hbb, hGr], rfl, by omega, fun h => (by cases h), fun _ => rfl⟩
  · have hdn : dn = true := by cases dn <;> simp_all
    (repeat (exists run1))
    exact k _ (hd1 hdn).2
end Q

set_option Elab.async false
set_option linter.all false
set_option maxRecDepth 100000
set_option maxHeartbeats 1000000
namespace Q
open PySem PySem.Spec PyProof.Rows L2
local macro_rules
  | `(tactic| exists run1) => `(tactic| (first
      | with_reducible refine Ex.seq ?_ | with_reducible refine Ex.set ?_ | with_reducible refine Ex.ret ?_ | with_reducible refine Ex.exp ?_ | with_reducible refine Ex.setOwn ?_ | with_reducible refine Ex.unpack ?_ | with_reducible refine Ex.par ?_ | with_reducible refine Ex.put ?_ | with_reducible refine Ex.app ?_ | with_reducible refine Ex.ext ?_ | with_reducible refine Ex.iff ?_ | with_reducible refine Ex.skip ?_ | with_reducible refine Ex.retN ?_ | with_reducible refine Ex.cont ?_ | with_reducible refine Ex.puts ?_ | with_reducible refine Ex.setA ?_ | with_reducible refine Ex.loop ?_
      | (with_reducible refine Ee.isv ?_; refine Ee.var rfl ?_)
      | with_reducible refine Ee.int ?_ | with_reducible refine Ee.bl ?_ | with_reducible refine Ee.str ?_ | with_reducible refine Ee.non ?_ | with_reducible refine Ee.tup ?_ | with_reducible refine Ee.lst ?_ | with_reducible refine Ee.bin ?_ | with_reducible refine Ee.neg ?_ | with_reducible refine Ee.cmp ?_ | with_reducible refine Ee.chain ?_ | with_reducible refine Ee.and ?_ | with_reducible refine Ee.or ?_ | with_reducible refine Ee.not ?_ | with_reducible refine Ee.ife ?_ | with_reducible refine Ee.sub ?_ | with_reducible refine Ee.slice ?_ | with_reducible refine Ee.rev ?_ | with_reducible refine Ee.sortset ?_ | with_reducible refine Ee.isi ?_ | with_reducible refine Ee.blt ?_ | with_reducible refine Ee.dct ?_ | with_reducible refine Ee.dnewT ?_ | with_reducible refine Ee.dnewK ?_
      | with_reducible refine El.cons ?_ | with_reducible refine El.nil ?_ | with_reducible refine Ep.nil ?_ | with_reducible refine Ep.val ?_ | with_reducible refine Ep.own ?_ | with_reducible refine Eo.no ?_ | with_reducible refine Eo.yes ?_ | with_reducible refine Eb.no ?_ | with_reducible refine Eb.yes ?_
      | with_reducible refine Ei.exv ?_ | with_reducible refine Ei.ex rfl ?_ | with_reducible refine Ei.rng1 ?_ | with_reducible refine Ei.rng2 ?_ | with_reducible refine Ei.enum ?_ | with_reducible refine Ei.zip ?_
      | with_reducible refine Aft.nx ?_ | with_reducible refine Aft.rt ?_ | with_reducible refine Aft.ct ?_ | with_reducible refine Trn.nx ?_ | with_reducible refine Trn.rt ?_ | with_reducible refine Trn.ct ?_ | with_reducible refine Fin.rt ?_ | with_reducible refine Fin.nx ?_
      | with_reducible refine Ts.mk ?_ | with_reducible refine Pt.mk ?_ | with_reducible refine exb ?_ | with_reducible refine exi ?_ | with_reducible refine exii ?_
      | with_reducible refine pr_add ?_ | with_reducible refine pr_sub ?_ | with_reducible refine pr_gt ?_ | with_reducible refine pr_le ?_ | with_reducible refine pr_ge ?_ | with_reducible refine pr_lt ?_ | with_reducible refine pr_lts ?_ | with_reducible refine pr_eqi ?_ | with_reducible refine pr_nei ?_ | with_reducible refine pr_eqs ?_ | with_reducible refine pr_nes ?_ | with_reducible refine pr_eqb ?_ | with_reducible refine pr_in ?_ | with_reducible refine pr_nin ?_
      | with_reducible refine pr_len_l ?_ | with_reducible refine pr_len_t ?_ | with_reducible refine pr_len_r ?_ | with_reducible refine pr_len_k ?_ | with_reducible refine pr_abs ?_ | with_reducible refine pr_max ?_ | with_reducible refine pr_min ?_ | with_reducible refine pr_int ?_ | with_reducible refine pr_intb ?_ | with_reducible refine pr_tup_l ?_ | with_reducible refine pr_list_l ?_ | with_reducible refine pr_list_t ?_ | with_reducible refine pr_sorted ?_ | with_reducible refine pr_repr ?_
      | with_reducible refine pr_items_l ?_ | with_reducible refine pr_items_t ?_ | with_reducible refine pr_keys_l ?_ | with_reducible refine pr_keys_t ?_ | with_reducible refine pr_keys_k ?_ | with_reducible refine pr_keys_kt ?_ | with_reducible refine pr_sl_l ?_ | with_reducible refine pr_sl_t ?_ | with_reducible refine pr_rev ?_ | with_reducible refine pr_bind1 ?_ | with_reducible refine pr_binds1 ?_
      | (with_reducible refine pr_cell (by assumption) ?_ ?_; exact rfl)
      | rw [sF_vals rfl]))
theorem nx_dis {B : Int} {rs : List Str} {ls : List Lk} (w : IsW B rs ls) {a d : Str} {f : Dst} (hd : d ∈ rs) (hf : Dis (lensOf ls) d f) : nx rs ls a d = if a = d then [] else rs.filter (nxP (lensOf ls) f a) := by
  have hg := dis_prog w hd
  have e : ∀ x, aget (distOf rs.length (lensOf ls) d) x = aget f x := hg.unique hf
  unfold nx nxL nxOf
  have ep : nxP (lensOf ls) (distOf rs.length (lensOf ls) d) a = nxP (lensOf ls) f a := by
    funext n
    unfold nxP
    rw [e, e]
  rw [e, ep]
  by_cases h : a = d
  · subst h
    rw [hf.zero (lens_pos w)]
    rw [if_pos (show (some (0:Int)).getD 0 = 0 from rfl), if_pos rfl]
  · rw [if_neg h]
    cases ha : aget f a with
    | none =>
      rw [if_pos (show (none : Option Int).getD 0 = 0 from rfl)]
      symm
      rw [List.filter_eq_nil_iff]
      intro n _
      unfold nxP
      rw [ha]
      split <;> simp_all
    | some v =>
      have := hf.pos (lens_pos w) ha h
      rw [if_neg (by show ¬ v = 0; omega)]
def P_ltab (m : FS) : Prop := ∀ (st : Store) (B : Int) (rs : List Str) (ls : List Lk) (Q : D → Store → Prop), IsW B rs ls → Q (tD (tb rs ls)) st → Cl m [rsD rs, lD (lensOf ls)] st Q
set_option maxHeartbeats 8000000 in
theorem ltab_ok {T : Tab} (h1 : Has T "_law_far_from" P_farfrom) : P_ltab (den T N__law_tables 2 c__law_tables) := by
  intro st B rs ls Q w k
  have nd := pw_nodup w.asc
  have h8 := w.eight
  refine Cl.den rfl (i__law_tables _ _) ?_
  unfold c__law_tables rsD
  (repeat (exists run1))
  refine ⟨rfl, ?_⟩
  (repeat (exists run1))
  refine Lp.inv (fun i e s => (∃ s3 s4 s5 s6, e = [.val (.tup (rs.map D.str)), .val (lD (lensOf ls)), .own (tD (tabs (nx rs ls) rs (rs.take i))), s3, s4, s5, s6, .un]) ∧ s = st) ⟨⟨.un, .un, .un, .un, rfl⟩, rfl⟩ ?_ ?_
  · rintro i x e s hx ⟨⟨s3, s4, s5, s6, rfl⟩, rfl⟩
    rw [List.getElem?_map] at hx
    obtain ⟨d, hd, rfl⟩ := Option.map_eq_some_iff.mp hx
    have hdr : d ∈ rs := List.mem_of_getElem? hd
    have hi : i < rs.length := (List.getElem?_eq_some_iff.mp hd).1
    (repeat (exists run1))
    refine Ee.callH h1 fun m hm => ?_
    (repeat (exists run1))
    refine hm _ B rs ls d _ w hdr fun f hf => ?_
    (repeat (exists run1))
    refine Lp.inv (fun j e s' => (∃ s5 s6, e = [.val (.tup (rs.map D.str)), .val (lD (lensOf ls)), .own (tD (tabs (nx rs ls) rs (rs.take i) ++ (rs.take j).map fun r => ((r, d), nx rs ls r d))), .val (.str d), .val (dS D.int f), s5, s6, .un]) ∧ s' = s) ⟨⟨s5, s6, by rw [List.take_zero, List.map_nil, List.append_nil]; rfl⟩, rfl⟩ ?_ ?_
    · rintro j y e s' hy ⟨⟨s5', s6', rfl⟩, rfl⟩
      rw [List.getElem?_map] at hy
      obtain ⟨r, hr, rfl⟩ := Option.map_eq_some_iff.mp hy
      have hrr : r ∈ rs := List.mem_of_getElem? hr
      have hj : j < rs.length := (List.getElem?_eq_some_iff.mp hr).1
      (repeat (exists run1))
      refine Ee.comp_map rs D.str (fun n => (aget (lensOf ls) (r, n)).isSome && ((aget f n).isSome && !(r == d))) D.str ?_
      (repeat (exists run1))
      refine ⟨rfl, fun n hn => ?_, ?_⟩
      · unfold Cp lD
        (repeat (exists run1))
        refine pr_inP ?_
        (repeat (exists run1))
        refine ⟨fun g1 => ?_, fun g1 => ?_⟩
        · rw [g1]
          (repeat (exists run1))
          refine pr_inS ?_
          (repeat (exists run1))
          refine ⟨fun g2 => ?_, fun g2 => ?_⟩
          · rw [g2]
            (repeat (exists run1))
            refine ⟨fun g3 => ?_, fun g3 => ?_⟩
            · rw [g3]
              (repeat (exists run1))
              exact ⟨rfl, rfl⟩
            · rw [g3]
              exact ⟨rfl, rfl⟩
          · rw [g2]
            refine exb ⟨fun h2 => (by cases h2), fun _ => ⟨rfl, rfl⟩⟩
        · rw [g1]
          refine exb ⟨fun h2 => (by cases h2), fun _ => ⟨rfl, rfl⟩⟩
      · (repeat (exists run1))
        refine Ee.comp_map (rs.filter fun n => (aget (lensOf ls) (r, n)).isSome && ((aget f n).isSome && !(r == d))) D.str (nxP (lensOf ls) f r) D.str ?_
        (repeat (exists run1))
        refine ⟨rfl, fun n hn => ?_, ?_⟩
        · rw [List.mem_filter, Bool.and_eq_true, Bool.and_eq_true] at hn
          obtain ⟨wt, hw⟩ := Option.isSome_iff_exists.mp hn.2.1
          obtain ⟨dn, hdn⟩ := Option.isSome_iff_exists.mp hn.2.2.1
          obtain ⟨dr, hdr', _⟩ := hf.edge (a := r) (b := n) (w := wt) (aget_mem hw) hdn
          unfold Cp lD
          have e : nxP (lensOf ls) f r n = (wt + dn == dr) := by unfold nxP; rw [hw, hdn, hdr']
          (repeat (first | exists run1 | refine pr_subP hw ?_ | refine pr_subS hdn ?_ | refine pr_subS hdr' ?_))
          refine ⟨fun g1 => ?_, fun g1 => ?_⟩
          · (repeat (exists run1))
            rw [e, g1]
            exact ⟨rfl, rfl⟩
          · rw [e, g1]
            exact ⟨rfl, rfl⟩
        · have e : (rs.filter fun n => (aget (lensOf ls) (r, n)).isSome && ((aget f n).isSome && !(r == d))).filter (nxP (lensOf ls) f r) = nx rs ls r d := by
            rw [nx_dis w hdr hf, List.filter_filter]
            by_cases hrd : r = d
            · rw [if_pos hrd, List.filter_eq_nil_iff]
              intro n _
              simp [hrd]
            · rw [if_neg hrd]
              refine List.filter_congr fun n _ => ?_
              have : (r == d) = false := by simp [hrd]
              rw [this]
              unfold nxP
              cases aget (lensOf ls) (r, n) <;> cases aget f n <;> simp
          rw [e]
          (repeat (exists run1))
          refine pr_putP (vf := rsD) rfl ?_ ?_
          · rw [List.length_append, tabs_len, List.length_map, List.length_take, List.length_take, sizeLine_eq]
            have : min i rs.length * rs.length ≤ 8 * 8 := Nat.mul_le_mul (by omega) h8
            omega
          · refine Trn.nx ⟨⟨.val (.str r), .val (.lst ((rs.filter fun n => (aget (lensOf ls) (r, n)).isSome && ((aget f n).isSome && !(r == d))).map D.str)), ?_⟩, rfl⟩
            rw [← tabs_put nd (take_not nd hd) hr]
            rfl
    · rintro e s' ⟨⟨s5', s6', rfl⟩, rfl⟩
      rw [List.length_map, List.take_length, tabs_next hd]
      refine Trn.nx ⟨⟨_, _, _, _, rfl⟩, rfl⟩
  · rintro e s ⟨⟨s3, s4, s5, s6, rfl⟩, rfl⟩
    rw [List.length_map, List.take_length]
    (repeat (exists run1))
    exact k
def P_ltabof (m : FS) : Prop := ∀ (st : Store) (B : Int) (rs : List Str) (ls : List Lk) (Q : D → Store → Prop), IsW B rs ls → Q (tD (tb rs ls)) st → Cl m [worldD rs ls] st Q
theorem ltabof_ok {T : Tab} (h1 : Has T "_law_tables" P_ltab) (h2 : Has T "_law_lengths" P_llens) : P_ltabof (den T N__law_tables_of 1 c__law_tables_of) := by
  intro st B rs ls Q w k
  refine Cl.den rfl (i__law_tables_of _) ?_
  unfold c__law_tables_of worldD
  (repeat (exists run1))
  refine Ee.callH h1 fun m hm => ?_
  (repeat (first | exists run1 | refine pr_subt rfl ?_))
  refine Ee.callH h2 fun m2 hm2 => ?_
  (repeat (first | exists run1 | refine pr_subt rfl ?_))
  refine hm2 _ B rs ls _ w ?_
  (repeat (exists run1))
  exact hm _ B rs ls _ w (Fin.rt k)
end Q

set_option Elab.async false
set_option linter.all false
set_option maxRecDepth 100000
set_option maxHeartbeats 1000000
namespace Q
open PySem PySem.Spec PyProof.Rows L2
local macro_rules
  | `(tactic| exists run1) => `(tactic| (first
      | with_reducible refine Ex.seq ?_ | with_reducible refine Ex.set ?_ | with_reducible refine Ex.ret ?_ | with_reducible refine Ex.exp ?_ | with_reducible refine Ex.setOwn ?_ | with_reducible refine Ex.unpack ?_ | with_reducible refine Ex.par ?_ | with_reducible refine Ex.put ?_ | with_reducible refine Ex.app ?_ | with_reducible refine Ex.ext ?_ | with_reducible refine Ex.iff ?_ | with_reducible refine Ex.skip ?_ | with_reducible refine Ex.retN ?_ | with_reducible refine Ex.cont ?_ | with_reducible refine Ex.puts ?_ | with_reducible refine Ex.setA ?_ | with_reducible refine Ex.loop ?_
      | (with_reducible refine Ee.isv ?_; refine Ee.var rfl ?_)
      | with_reducible refine Ee.int ?_ | with_reducible refine Ee.bl ?_ | with_reducible refine Ee.str ?_ | with_reducible refine Ee.non ?_ | with_reducible refine Ee.tup ?_ | with_reducible refine Ee.lst ?_ | with_reducible refine Ee.bin ?_ | with_reducible refine Ee.neg ?_ | with_reducible refine Ee.cmp ?_ | with_reducible refine Ee.chain ?_ | with_reducible refine Ee.and ?_ | with_reducible refine Ee.or ?_ | with_reducible refine Ee.not ?_ | with_reducible refine Ee.ife ?_ | with_reducible refine Ee.sub ?_ | with_reducible refine Ee.slice ?_ | with_reducible refine Ee.rev ?_ | with_reducible refine Ee.sortset ?_ | with_reducible refine Ee.isi ?_ | with_reducible refine Ee.blt ?_ | with_reducible refine Ee.dct ?_ | with_reducible refine Ee.dnewT ?_ | with_reducible refine Ee.dnewK ?_
      | with_reducible refine El.cons ?_ | with_reducible refine El.nil ?_ | with_reducible refine Ep.nil ?_ | with_reducible refine Ep.val ?_ | with_reducible refine Ep.own ?_ | with_reducible refine Eo.no ?_ | with_reducible refine Eo.yes ?_ | with_reducible refine Eb.no ?_ | with_reducible refine Eb.yes ?_
      | with_reducible refine Ei.exv ?_ | with_reducible refine Ei.ex rfl ?_ | with_reducible refine Ei.rng1 ?_ | with_reducible refine Ei.rng2 ?_ | with_reducible refine Ei.enum ?_ | with_reducible refine Ei.zip ?_
      | with_reducible refine Aft.nx ?_ | with_reducible refine Aft.rt ?_ | with_reducible refine Aft.ct ?_ | with_reducible refine Trn.nx ?_ | with_reducible refine Trn.rt ?_ | with_reducible refine Trn.ct ?_ | with_reducible refine Fin.rt ?_ | with_reducible refine Fin.nx ?_
      | with_reducible refine Ts.mk ?_ | with_reducible refine Pt.mk ?_ | with_reducible refine exb ?_ | with_reducible refine exi ?_ | with_reducible refine exii ?_
      | with_reducible refine pr_add ?_ | with_reducible refine pr_sub ?_ | with_reducible refine pr_gt ?_ | with_reducible refine pr_le ?_ | with_reducible refine pr_ge ?_ | with_reducible refine pr_lt ?_ | with_reducible refine pr_lts ?_ | with_reducible refine pr_eqi ?_ | with_reducible refine pr_nei ?_ | with_reducible refine pr_eqs ?_ | with_reducible refine pr_nes ?_ | with_reducible refine pr_eqb ?_ | with_reducible refine pr_in ?_ | with_reducible refine pr_nin ?_
      | with_reducible refine pr_len_l ?_ | with_reducible refine pr_len_t ?_ | with_reducible refine pr_len_r ?_ | with_reducible refine pr_len_k ?_ | with_reducible refine pr_abs ?_ | with_reducible refine pr_max ?_ | with_reducible refine pr_min ?_ | with_reducible refine pr_int ?_ | with_reducible refine pr_intb ?_ | with_reducible refine pr_tup_l ?_ | with_reducible refine pr_list_l ?_ | with_reducible refine pr_list_t ?_ | with_reducible refine pr_sorted ?_ | with_reducible refine pr_repr ?_
      | with_reducible refine pr_items_l ?_ | with_reducible refine pr_items_t ?_ | with_reducible refine pr_keys_l ?_ | with_reducible refine pr_keys_t ?_ | with_reducible refine pr_keys_k ?_ | with_reducible refine pr_keys_kt ?_ | with_reducible refine pr_sl_l ?_ | with_reducible refine pr_sl_t ?_ | with_reducible refine pr_rev ?_ | with_reducible refine pr_bind1 ?_ | with_reducible refine pr_binds1 ?_
      | (with_reducible refine pr_cell (by assumption) ?_ ?_; exact rfl)
      | rw [sF_vals rfl]))
theorem IsW.mono {B C : Int} {rs : List Str} {ls : List Lk} (w : IsW B rs ls) (h : B ≤ C) : IsW C rs ls :=
  ⟨w.two, w.eight, w.names, w.asc, w.few, fun l hl => by obtain ⟨a, b, c, d, e⟩ := w.lk l hl; exact ⟨a, b, by omega, d, by omega⟩, w.lasc⟩
def isPr (a b : Str) (l : Lk) : Bool := l.1 == a && l.2.1 == b
theorem isPr_iff {a b : Str} {l : Lk} : isPr a b l = true ↔ (l.1 = a ∧ l.2.1 = b) := by simp [isPr]
theorem PLt.irrefl (a : Lk) : ¬ PLt a a := fun h => by
  rcases h with h | ⟨_, h⟩
  · exact SLt.irrefl _ h
  · exact SLt.irrefl _ h
theorem pl_nodup {ls : List Lk} (h : ls.Pairwise PLt) : ls.Nodup := h.imp fun {x y} h z => by
  subst z; exact PLt.irrefl _ h
theorem cut2 (l : Lk) : cutD [.str l.1, .str l.2.1, .int l.2.2.1, .int l.2.2.2] none (some 2) = [.str l.1, .str l.2.1] := rfl
theorem pr_nepr {rs : List Str} {a b c d : Str} {QB : Bool → Prop} (hn : ∀ r ∈ rs, IsName r) (h1 : a ∈ rs) (h2 : b ∈ rs) (h3 : c ∈ rs) (h4 : d ∈ rs) (h : QB (!(a == c && b == d))) : Pr (cmpD .NotEq (.tup [.str a, .str b]) (.tup [.str c, .str d])) QB := by
  refine pr_nepl (pair_pl (p := (a, b)) (hn _ h1) (hn _ h2)) (pair_pl (p := (c, d)) (hn _ h3) (hn _ h4)) (by show 1 ≤ 60; decide) (by show 1 ≤ 60; decide) fun x hx => ?_
  have : x = !(a == c && b == d) := by
    cases x with
    | false =>
      have e := hx.mp rfl
      injection e with e
      injection e with e1 e
      injection e with e2 e
      injection e1 with e1
      injection e2 with e2
      simp [e1, e2]
    | true =>
      by_cases e1 : a = c
      · by_cases e2 : b = d
        · have := hx.mpr (by rw [e1, e2])
          cases this
        · simp [e2]
      · simp [e1]
  rw [this]
  exact h
theorem pr_eqpr {rs : List Str} {a b c d : Str} {QB : Bool → Prop} (hn : ∀ r ∈ rs, IsName r) (h1 : a ∈ rs) (h2 : b ∈ rs) (h3 : c ∈ rs) (h4 : d ∈ rs) (h : QB (a == c && b == d)) : Pr (cmpD .Eq (.tup [.str a, .str b]) (.tup [.str c, .str d])) QB := by
  refine pr_eqpl (pair_pl (p := (a, b)) (hn _ h1) (hn _ h2)) (pair_pl (p := (c, d)) (hn _ h3) (hn _ h4)) (by show 1 ≤ 60; decide) (by show 1 ≤ 60; decide) fun x hx => ?_
  have : x = (a == c && b == d) := by
    cases x with
    | true =>
      have e := hx.mp rfl
      injection e with e
      injection e with e1 e
      injection e with e2 e
      injection e1 with e1
      injection e2 with e2
      simp [e1, e2]
    | false =>
      by_cases e1 : a = c
      · by_cases e2 : b = d
        · have := hx.mpr (by rw [e1, e2])
          cases this
        · simp [e2]
      · simp [e1]
  rw [this]
  exact h
theorem IsW.lkin {B : Int} {rs : List Str} {ls : List Lk} (w : IsW B rs ls) {l : Lk} (hl : l ∈ ls) : l.1 ∈ rs ∧ l.2.1 ∈ rs := ⟨(w.lk l hl).1.1, (w.lk l hl).1.2.1⟩
theorem pw_uni {ls : List Lk} (h : ls.Pairwise PLt) {x y : Lk} (hx : x ∈ ls) (hy : y ∈ ls) (e1 : x.1 = y.1) (e2 : x.2.1 = y.2.1) : x = y := by
  by_cases e : x = y
  · exact e
  · exfalso
    have := pw_any (R := fun a b : Lk => ¬ (a.1 = b.1 ∧ a.2.1 = b.2.1)) (fun _ _ h z => h ⟨z.1.symm, z.2.symm⟩) (h.imp fun {a b} h z => by
      rcases h with h | ⟨_, h⟩
      · exact h.ne z.1
      · exact h.ne z.2) hx hy e
    exact this ⟨e1, e2⟩
/-- the links of ls but that between a and b, and a new one -/
structure WithL (ls : List Lk) (a b : Str) (t u : Int) (ls' : List Lk) : Prop where
  mem : ∀ l, l ∈ ls' ↔ ((l ∈ ls ∧ isPr a b l = false) ∨ l = (a, b, t, u))
  asc : ls'.Pairwise PLt
theorem WithL.isW {B : Int} {rs : List Str} {ls ls' : List Lk} {a b : Str} {t u : Int} (h : WithL ls a b t u ls') (w : IsW B rs ls) (hg : GoodP rs (a, b)) (h1 : 1 ≤ t) (h2 : t ≤ B) (h3 : 1 ≤ u) (h4 : u ≤ B) (hl : ls.length < 16 ∨ ∃ l ∈ ls, isPr a b l = true) : IsW B rs ls' := by
  refine ⟨w.two, w.eight, w.names, w.asc, ?_, fun l hl => ?_, h.asc⟩
  · have hle : ls'.length ≤ (ls.filter (fun l => !isPr a b l) ++ [(a, b, t, u)]).length := (pl_nodup h.asc).length_le_of_subset fun l hl => by
      rcases (h.mem l).mp hl with ⟨q1, q2⟩ | q
      · exact List.mem_append_left _ (List.mem_filter.mpr ⟨q1, by rw [q2]; rfl⟩)
      · exact List.mem_append_right _ (by rw [q]; exact List.mem_singleton.mpr rfl)
    rw [List.length_append] at hle
    have hf := w.few
    rcases hl with hl | ⟨l, hl, hp⟩
    · have := List.length_filter_le (fun l => !isPr a b l) ls
      have e1 : ([(a, b, t, u)] : List Lk).length = 1 := rfl
      omega
    · have : (ls.filter (fun l => !isPr a b l)).length < ls.length := List.length_filter_lt_length_iff_exists.mpr ⟨l, hl, by rw [hp]; decide⟩
      have e1 : ([(a, b, t, u)] : List Lk).length = 1 := rfl
      omega
  · rcases (h.mem l).mp hl with ⟨q1, _⟩ | q
    · exact w.lk l q1
    · subst q
      exact ⟨hg, h1, h2, h3, h4⟩
def P_with (m : FS) : Prop := ∀ (st : Store) (B : Int) (rs : List Str) (ls : List Lk) (a b : Str) (t u : Int) (Q : D → Store → Prop), IsW B rs ls → GoodP rs (a, b) → (∀ ls', WithL ls a b t u ls' → Q (worldD rs ls') st) → Cl m [worldD rs ls, .str a, .str b, .int t, .int u] st Q
theorem with_ok {T : Tab} : P_with (den T N__law_with 5 c__law_with) := by
  intro st B rs ls a b t u Q w hg k
  refine Cl.den rfl (i__law_with _ _ _ _ _) ?_
  unfold c__law_with worldD lsD
  (repeat (first | exists run1 | refine pr_subt rfl ?_))
  refine Ee.comp_map ls lkD (fun l => !isPr a b l) lkD ?_
  (repeat (first | exists run1 | refine pr_subt rfl ?_))
  refine ⟨rfl, fun l hl => ?_, ?_⟩
  · unfold Cp lkD
    have hi := w.lkin hl
    (repeat (exists run1))
    rw [cut2]
    refine pr_nepr w.names hi.1 hi.2 hg.1 hg.2.1 ?_
    (repeat (exists run1))
    refine ⟨fun g => ?_, fun g => ?_⟩
    · (repeat (exists run1))
      exact ⟨by unfold isPr; rw [g]; rfl, rfl⟩
    · exact ⟨by unfold isPr; rw [g]; rfl, rfl⟩
  · (repeat (first | exists run1 | refine pr_subt rfl ?_))
    refine pr_addl ?_ ?_
    · rw [List.length_map, sizeLine_eq]
      have := List.length_filter_le (fun l => !isPr a b l) ls
      have := w.few
      show _ + 1 ≤ _
      omega
    (repeat (exists run1))
    have e : (ls.filter fun l => !isPr a b l).map lkD ++ [D.tup [.str a, .str b, .int t, .int u]] = ((ls.filter fun l => !isPr a b l) ++ [(a, b, t, u)]).map lkD := by rw [List.map_append]; rfl
    rw [e]
    have ei : ∀ l : Lk, l ∈ ls.filter (fun l => !isPr a b l) ++ [(a, b, t, u)] ↔ ((l ∈ ls ∧ isPr a b l = false) ∨ l = (a, b, t, u)) := fun l => by
      rw [List.mem_append, List.mem_filter, List.mem_singleton, Bool.not_eq_true']
    obtain ⟨ys, y1, y2, y3⟩ := sortset_lks (ls := (ls.filter fun l => !isPr a b l) ++ [(a, b, t, u)]) (by
      rw [List.length_append]
      have := List.length_filter_le (fun l => !isPr a b l) ls
      have := w.few
      show _ + 1 < _
      omega) (fun x hx y hy e1 e2 => by
        rcases (ei x).mp hx with ⟨q1, q2⟩ | q
        · rcases (ei y).mp hy with ⟨p1, p2⟩ | p
          · exact pw_uni w.lasc q1 p1 e1 e2
          · subst p
            have := isPr_iff.mpr ⟨e1, e2⟩
            rw [q2] at this
            cases this
        · rcases (ei y).mp hy with ⟨p1, p2⟩ | p
          · subst q
            have := isPr_iff.mpr ⟨e1.symm, e2.symm⟩
            rw [p2] at this
            cases this
          · rw [p, q])
    refine Pr.of y1 ?_
    (repeat (exists run1))
    exact k ys ⟨fun l => (y2 l).trans (ei l), y3⟩
def woL (ls : List Lk) (a b : Str) : List Lk := ls.filter fun l => !isPr a b l
theorem woL_isW {B : Int} {rs : List Str} {ls : List Lk} {a b : Str} (w : IsW B rs ls) : IsW B rs (woL ls a b) :=
  ⟨w.two, w.eight, w.names, w.asc, Nat.le_trans (List.length_filter_le _ _) w.few, fun l hl => w.lk l (List.mem_filter.mp hl).1, w.lasc.filter _⟩
def P_without (m : FS) : Prop := ∀ (st : Store) (B : Int) (rs : List Str) (ls : List Lk) (a b : Str) (Q : D → Store → Prop), IsW B rs ls → a ∈ rs → b ∈ rs → Q (worldD rs (woL ls a b)) st → Cl m [worldD rs ls, .str a, .str b] st Q
theorem without_ok {T : Tab} : P_without (den T N__law_without 3 c__law_without) := by
  intro st B rs ls a b Q w ha hb k
  refine Cl.den rfl (i__law_without _ _ _) ?_
  unfold c__law_without worldD lsD
  (repeat (first | exists run1 | refine pr_subt rfl ?_))
  refine Ee.comp_map ls lkD (fun l => !isPr a b l) lkD ?_
  (repeat (first | exists run1 | refine pr_subt rfl ?_))
  refine ⟨rfl, fun l hl => ?_, ?_⟩
  · unfold Cp lkD
    have hi := w.lkin hl
    (repeat (exists run1))
    rw [cut2]
    refine pr_nepr w.names hi.1 hi.2 ha hb ?_
    (repeat (exists run1))
    refine ⟨fun g => ?_, fun g => ?_⟩
    · (repeat (exists run1))
      exact ⟨by unfold isPr; rw [g]; rfl, rfl⟩
    · exact ⟨by unfold isPr; rw [g]; rfl, rfl⟩
  · (repeat (exists run1))
    exact k
structure P_shifted (m : FS) : Prop where
  none : ∀ (st : Store) (B : Int) (rs : List Str) (ls : List Lk) (a b : Str) (Q : D → Store → Prop), IsW B rs ls → a ∈ rs → b ∈ rs → Q (worldD rs (woL ls a b)) st → Cl m [worldD rs ls, .str a, .str b, .non] st Q
  some : ∀ (st : Store) (B : Int) (rs : List Str) (ls : List Lk) (l : Lk) (t : Int) (Q : D → Store → Prop), IsW B rs ls → l ∈ ls → (∀ ls', WithL ls l.1 l.2.1 (l.2.2.1 + t) (l.2.2.2 + t) ls' → Q (worldD rs ls') st) → Cl m [worldD rs ls, .str l.1, .str l.2.1, .int t] st Q
theorem filter_one {ls : List Lk} (h : ls.Pairwise PLt) {l : Lk} (hl : l ∈ ls) : ls.filter (isPr l.1 l.2.1) = [l] := by
  have h1 : ∀ x ∈ ls.filter (isPr l.1 l.2.1), x = l := fun x hx => by
    rw [List.mem_filter] at hx
    have := isPr_iff.mp hx.2
    exact pw_uni h hx.1 hl this.1 this.2
  have h2 : l ∈ ls.filter (isPr l.1 l.2.1) := List.mem_filter.mpr ⟨hl, isPr_iff.mpr ⟨rfl, rfl⟩⟩
  have h3 : (ls.filter (isPr l.1 l.2.1)).Nodup := (pl_nodup h).filter _
  generalize ls.filter (isPr l.1 l.2.1) = r at h1 h2 h3
  match r, h1, h2, h3 with
  | [x], h1, _, _ => rw [h1 x (List.mem_cons_self ..)]
  | x :: y :: r, h1, _, h3 =>
    have e1 := h1 x (List.mem_cons_self ..)
    have e2 := h1 y (List.mem_cons_of_mem _ (List.mem_cons_self ..))
    rw [List.nodup_cons] at h3
    exact absurd (by rw [e1, ← e2]; exact List.mem_cons_self ..) h3.1
theorem shifted_ok {T : Tab} (h1 : Has T "_law_without" P_without) (h2 : Has T "_law_with" P_with) : P_shifted (den T N__law_shifted 4 c__law_shifted) := by
  constructor
  · intro st B rs ls a b Q w ha hb k
    refine Cl.den rfl (i__law_shifted _ _ _ _) ?_
    unfold c__law_shifted
    (repeat (exists run1))
    refine Pr.of (d := true) rfl ?_
    (repeat (exists run1))
    refine ⟨fun _ => ?_, fun h => (by cases h)⟩
    (repeat (exists run1))
    refine Ee.callH h1 fun m hm => ?_
    (repeat (exists run1))
    refine hm _ B rs ls a b _ w ha hb ?_
    (repeat (exists run1))
    exact k
  · intro st B rs ls l t Q w hl k
    have hi := w.lkin hl
    refine Cl.den rfl (i__law_shifted _ _ _ _) ?_
    unfold c__law_shifted
    (repeat (exists run1))
    refine Pr.of (d := false) rfl ?_
    (repeat (exists run1))
    refine ⟨fun h => (by cases h), fun _ => ?_⟩
    (repeat (exists run1))
    unfold worldD lsD
    refine Ee.comp_map ls lkD (isPr l.1 l.2.1) lkD ?_
    (repeat (first | exists run1 | refine pr_subt rfl ?_))
    refine ⟨rfl, fun l' hl' => ?_, ?_⟩
    · unfold Cp lkD
      have hi' := w.lkin hl'
      (repeat (exists run1))
      rw [cut2]
      refine pr_eqpr w.names hi'.1 hi'.2 hi.1 hi.2 ?_
      (repeat (exists run1))
      refine ⟨fun g => ?_, fun g => ?_⟩
      · (repeat (exists run1))
        exact ⟨by unfold isPr; rw [g]; rfl, rfl⟩
      · exact ⟨by unfold isPr; rw [g]; rfl, rfl⟩
    · rw [filter_one w.lasc hl]
      (repeat (first | exists run1 | refine pr_subl rfl ?_))
      refine Ee.callH h2 fun m hm => ?_
      unfold lkD
      (repeat (first | exists run1 | refine pr_subt rfl ?_))
      exact hm _ B rs ls _ _ _ _ _ w (w.lk l hl).1 fun ls' h => Fin.rt (k ls' h)
end Q

set_option Elab.async false
set_option linter.all false
set_option maxRecDepth 100000
set_option maxHeartbeats 1000000
namespace Q
open PySem PySem.Spec PyProof.Rows L2
local macro_rules
  | `(tactic| exists run1) => `(tactic| (first
      | with_reducible refine Ex.seq ?_ | with_reducible refine Ex.set ?_ | with_reducible refine Ex.ret ?_ | with_reducible refine Ex.exp ?_ | with_reducible refine Ex.setOwn ?_ | with_reducible refine Ex.unpack ?_ | with_reducible refine Ex.par ?_ | with_reducible refine Ex.put ?_ | with_reducible refine Ex.app ?_ | with_reducible refine Ex.ext ?_ | with_reducible refine Ex.iff ?_ | with_reducible refine Ex.skip ?_ | with_reducible refine Ex.retN ?_ | with_reducible refine Ex.cont ?_ | with_reducible refine Ex.puts ?_ | with_reducible refine Ex.setA ?_ | with_reducible refine Ex.loop ?_
      | (with_reducible refine Ee.isv ?_; refine Ee.var rfl ?_)
      | with_reducible refine Ee.int ?_ | with_reducible refine Ee.bl ?_ | with_reducible refine Ee.str ?_ | with_reducible refine Ee.non ?_ | with_reducible refine Ee.tup ?_ | with_reducible refine Ee.lst ?_ | with_reducible refine Ee.bin ?_ | with_reducible refine Ee.neg ?_ | with_reducible refine Ee.cmp ?_ | with_reducible refine Ee.chain ?_ | with_reducible refine Ee.and ?_ | with_reducible refine Ee.or ?_ | with_reducible refine Ee.not ?_ | with_reducible refine Ee.ife ?_ | with_reducible refine Ee.sub ?_ | with_reducible refine Ee.slice ?_ | with_reducible refine Ee.rev ?_ | with_reducible refine Ee.sortset ?_ | with_reducible refine Ee.isi ?_ | with_reducible refine Ee.blt ?_ | with_reducible refine Ee.dct ?_ | with_reducible refine Ee.dnewT ?_ | with_reducible refine Ee.dnewK ?_
      | with_reducible refine El.cons ?_ | with_reducible refine El.nil ?_ | with_reducible refine Ep.nil ?_ | with_reducible refine Ep.val ?_ | with_reducible refine Ep.own ?_ | with_reducible refine Eo.no ?_ | with_reducible refine Eo.yes ?_ | with_reducible refine Eb.no ?_ | with_reducible refine Eb.yes ?_
      | with_reducible refine Ei.exv ?_ | with_reducible refine Ei.ex rfl ?_ | with_reducible refine Ei.rng1 ?_ | with_reducible refine Ei.rng2 ?_ | with_reducible refine Ei.enum ?_ | with_reducible refine Ei.zip ?_
      | with_reducible refine Aft.nx ?_ | with_reducible refine Aft.rt ?_ | with_reducible refine Aft.ct ?_ | with_reducible refine Trn.nx ?_ | with_reducible refine Trn.rt ?_ | with_reducible refine Trn.ct ?_ | with_reducible refine Fin.rt ?_ | with_reducible refine Fin.nx ?_
      | with_reducible refine Ts.mk ?_ | with_reducible refine Pt.mk ?_ | with_reducible refine exb ?_ | with_reducible refine exi ?_ | with_reducible refine exii ?_
      | with_reducible refine pr_add ?_ | with_reducible refine pr_sub ?_ | with_reducible refine pr_gt ?_ | with_reducible refine pr_le ?_ | with_reducible refine pr_ge ?_ | with_reducible refine pr_lt ?_ | with_reducible refine pr_lts ?_ | with_reducible refine pr_eqi ?_ | with_reducible refine pr_nei ?_ | with_reducible refine pr_eqs ?_ | with_reducible refine pr_nes ?_ | with_reducible refine pr_eqb ?_ | with_reducible refine pr_in ?_ | with_reducible refine pr_nin ?_
      | with_reducible refine pr_len_l ?_ | with_reducible refine pr_len_t ?_ | with_reducible refine pr_len_r ?_ | with_reducible refine pr_len_k ?_ | with_reducible refine pr_abs ?_ | with_reducible refine pr_max ?_ | with_reducible refine pr_min ?_ | with_reducible refine pr_int ?_ | with_reducible refine pr_intb ?_ | with_reducible refine pr_tup_l ?_ | with_reducible refine pr_list_l ?_ | with_reducible refine pr_list_t ?_ | with_reducible refine pr_sorted ?_ | with_reducible refine pr_repr ?_
      | with_reducible refine pr_items_l ?_ | with_reducible refine pr_items_t ?_ | with_reducible refine pr_keys_l ?_ | with_reducible refine pr_keys_t ?_ | with_reducible refine pr_keys_k ?_ | with_reducible refine pr_keys_kt ?_ | with_reducible refine pr_sl_l ?_ | with_reducible refine pr_sl_t ?_ | with_reducible refine pr_rev ?_ | with_reducible refine pr_bind1 ?_ | with_reducible refine pr_binds1 ?_
      | (with_reducible refine pr_cell (by assumption) ?_ ?_; exact rfl)
      | rw [sF_vals rfl]))
theorem lk_pl {l : Lk} (h1 : IsName l.1) (h2 : IsName l.2.1) : plD (lkD l) = true := by
  show (plD (.str l.1) && (plD (.str l.2.1) && (plD (.int l.2.2.1) && (plD (.int l.2.2.2) && true)))) = true
  rw [name_ok h1, name_ok h2]; rfl
theorem ls_pl {B : Int} {rs : List Str} {ls : List Lk} (w : IsW B rs ls) : plD (lsD ls) = true := plL_all.mpr fun d hd => by
  obtain ⟨l, hl, rfl⟩ := List.mem_map.mp hd
  exact lk_pl (w.names _ (w.lkin hl).1) (w.names _ (w.lkin hl).2)
theorem ls_dp (ls : List Lk) : dpD (lsD ls) ≤ 60 := by
  have : dpL (ls.map lkD) ≤ 1 := dpL_le.mpr fun d hd => by
    obtain ⟨l, hl, rfl⟩ := List.mem_map.mp hd
    exact Nat.le_refl 1
  show dpL (ls.map lkD) + 1 ≤ 60
  omega
theorem two_of {rs ss ys : List Str} (hn : ss.Nodup) (hl : ss.length = 2) (hs : ∀ s ∈ ss, s ∈ rs) (h1 : ∀ s, s ∈ ys ↔ s ∈ ss) (h2 : ys.Pairwise SLt) : ∃ a b, ys = [a, b] ∧ GoodP rs (a, b) := by
  have l1 : ys.length ≤ 2 := hl ▸ (pw_nodup h2).length_le_of_subset fun s h => (h1 s).mp h
  have l2 : 2 ≤ ys.length := hl ▸ hn.length_le_of_subset fun s h => (h1 s).mpr h
  match ys, l1, l2, h1, h2 with
  | [a, b], _, _, h1, h2 =>
    refine ⟨a, b, rfl, hs _ ((h1 a).mp (List.mem_cons_self ..)), hs _ ((h1 b).mp (List.mem_cons_of_mem _ (List.mem_cons_self ..))), ?_⟩
    rw [List.pairwise_cons] at h2
    exact h2.1 b (List.mem_cons_self ..)
def c_rest : CS := (.iff (.and (.cmp .Eq (.var 4) (.int 3)) (.cmp .Gt (.blt "len" (.cons (.var 5) .nil)) (.int 1))) (.seq (.unpack [8, 9] (.slice (.call "_law_of" (.cons (.var 0) (.cons (.var 5) .nil))) .no (.yes (.int 2)))) (.set 2 (.call "_law_without" (.cons (.var 2) (.cons (.var 8) (.cons (.var 9) .nil)))))) (.iff (.cmp .Lt (.blt "len" (.cons (.var 5) .nil)) (.int 16)) (.seq (.unpack [8, 9] (.sortset (.slice (.call "_law_turned" (.cons (.var 0) (.cons (.blt "list" (.cons (.sub (.var 2) (.int 0)) .nil)) .nil))) .no (.yes (.int 2))))) (.set 2 (.call "_law_with" (.cons (.var 2) (.cons (.var 8) (.cons (.var 9) (.cons (.call "_law_far" (.cons (.var 0) .nil)) (.cons (.call "_law_far" (.cons (.var 0) .nil)) .nil)))))))) .skip))
def RestOk (c b : Nat) (B : Int) (rs : List Str) (ls : List Lk) (st : Store) (i : Nat) (e : List Sl) (s : Store) : Prop := ∃ (s3 s4 s5 s6 s7 s8 s9 s10 s11 : Sl) (ls' : List Lk), e = [.val (.cell c), .val (worldD rs ls), .val (worldD rs ls'), s3, s4, s5, s6, s7, s8, s9, s10, s11] ∧ IsW (B + 30 * (i : Int) + 30) rs ls' ∧ Nxt c (b + 1 + 12 * i + 12) st s
set_option maxHeartbeats 8000000 in
theorem near_rest {T : Tab} (hO : Has T "_law_of" P_of) (hWo : Has T "_law_without" P_without) (hWi : Has T "_law_with" P_with) (hTu : Has T "_law_turned" P_turned) (hF : Has T "_law_far" P_far) {c b i : Nat} {B wy : Int} {rs : List Str} {ls ls' : List Lk} {st s : Store} {s3 s6 s7 s8 s9 s10 s11 : Sl} {K : Fl × List Sl × Store → Prop} (hlim : b + 13 + 12 * i < 2 ^ 60) (hB : 90 ≤ B) (w' : IsW (B + 30 * (i : Int)) rs ls') (hN : Nxt c (b + 1 + 12 * i + 1) st s) (hK : ∀ e s', RestOk c b B rs ls st i e s' → K (.nx, e, s')) :
    Ex T c_rest [.val (.cell c), .val (worldD rs ls), .val (worldD rs ls'), s3, .val (.int wy), .val (lsD ls'), s6, s7, s8, s9, s10, s11] s K := by
  have skip : Ex T (.iff (.cmp .Lt (.blt "len" (.cons (.var 5) .nil)) (.int 16)) (.seq (.unpack [8, 9] (.sortset (.slice (.call "_law_turned" (.cons (.var 0) (.cons (.blt "list" (.cons (.sub (.var 2) (.int 0)) .nil)) .nil))) .no (.yes (.int 2))))) (.set 2 (.call "_law_with" (.cons (.var 2) (.cons (.var 8) (.cons (.var 9) (.cons (.call "_law_far" (.cons (.var 0) .nil)) (.cons (.call "_law_far" (.cons (.var 0) .nil)) .nil)))))))) .skip) [.val (.cell c), .val (worldD rs ls), .val (worldD rs ls'), s3, .val (.int wy), .val (lsD ls'), s6, s7, s8, s9, s10, s11] s K := by
    unfold lsD
    (repeat (exists run1))
    refine ⟨fun g => ?_, fun g => ?_⟩
    · rw [decide_eq_true_eq, List.length_map] at g
      refine Ex.seq ?_
      refine Ex.unpackL ?_
      (repeat (exists run1))
      refine Ee.callH hTu fun m1 hm1 => ?_
      unfold worldD rsD
      (repeat (first | exists run1 | refine pr_subt rfl ?_))
      refine hm1 _ _ (b + 1 + 12 * i + 1) _ _ hN.pot (by show _ < 2 ^ 60; omega) (fun h => by
        have := congrArg List.length h
        rw [List.length_map] at this
        have := w'.two
        simp_all) (by rw [List.length_map]; have := w'.eight; omega) fun ys s1 hys hn1 => ?_
      obtain ⟨rs', rfl, hpr⟩ := perm_of_map hys
      (repeat (exists run1))
      have e1 : cutD (rs'.map D.str) none (some 2) = (rs'.take 2).map D.str := by rw [List.map_take]; exact cut_to (n := 2)
      rw [e1]
      have hl2 : (rs'.take 2).length = 2 := by rw [List.length_take, hpr.length_eq]; have := w'.two; omega
      obtain ⟨zs, z1, z2, z3⟩ := sortset_strs (ss := rs'.take 2) (by omega)
      obtain ⟨a, b', rfl, hg⟩ := two_of (rs := rs) ((hpr.nodup_iff.mpr (pw_nodup w'.asc)).sublist (List.take_sublist 2 rs')) hl2 (fun s hs => hpr.mem_iff.mp (List.mem_of_mem_take hs)) z2 z3
      refine Pr.of z1 ?_
      refine ⟨_, rfl, rfl, ?_⟩
      (repeat (exists run1))
      refine Ee.callH hWi fun m2 hm2 => ?_
      (repeat (exists run1))
      refine Ee.callH hF fun m3 hm3 => ?_
      (repeat (exists run1))
      refine hm3 _ _ (b + 1 + 12 * i + 1 + 2) _ hn1.pot (by show _ < 2 ^ 60; omega) fun y s3' hy1 hy2 hn3 => ?_
      (repeat (exists run1))
      refine Ee.callH hF fun m4 hm4 => ?_
      (repeat (exists run1))
      refine hm4 _ _ (b + 1 + 12 * i + 1 + 2 + 3) _ hn3.pot (by show _ < 2 ^ 60; omega) fun z s4' hz1 hz2 hn4 => ?_
      (repeat (exists run1))
      refine hm2 _ _ rs ls' a b' y z _ w' hg fun ls2 h2 => ?_
      (repeat (exists run1))
      exact hK _ _ ⟨_, _, _, _, _, _, _, _, _, ls2, rfl, h2.isW (w'.mono (by omega)) hg hy1 (by omega) hz1 (by omega) (.inl (by omega)), (((hN.trans hn1).trans hn3).trans hn4).mono (by omega)⟩
    · (repeat (exists run1))
      exact hK _ _ ⟨_, _, _, _, _, _, _, _, _, ls', rfl, w'.mono (by omega), hN.mono (by omega)⟩
  unfold c_rest
  (repeat (exists run1))
  refine ⟨fun g1 => ?_, fun g1 => ?_⟩
  · unfold lsD
    (repeat (exists run1))
    refine ⟨fun g2 => ?_, fun g2 => ?_⟩
    · rw [decide_eq_true_eq, List.length_map] at g2
      (repeat (exists run1))
      refine Ee.callH hO fun m3 hm3 => ?_
      (repeat (exists run1))
      refine hm3.tup _ _ (b + 1 + 12 * i + 1) _ _ hN.pot (by show _ < 2 ^ 60; omega) (fun h => by
        have := congrArg List.length h
        rw [List.length_map] at this
        simp at this
        rw [this] at g2
        simp at g2) (by rw [List.length_map]; have := w'.few; omega) fun x hx s3' hn3 => ?_
      obtain ⟨l, hl, rfl⟩ := List.mem_map.mp hx
      unfold lkD
      (repeat (exists run1))
      rw [cut2]
      refine ⟨_, rfl, rfl, ?_⟩
      (repeat (exists run1))
      refine Ee.callH hWo fun m4 hm4 => ?_
      (repeat (exists run1))
      refine hm4 _ _ rs ls' l.1 l.2.1 _ w' (w'.lkin hl).1 (w'.lkin hl).2 ?_
      (repeat (exists run1))
      exact hK _ _ ⟨_, _, _, _, _, _, _, _, _, woL ls' l.1 l.2.1, rfl, woL_isW (w'.mono (by omega)), (hN.trans hn3).mono (by omega)⟩
    · exact skip
  · exact exb ⟨fun h => (by cases h), fun _ => skip⟩
def P_near (m : FS) : Prop := ∀ (st : Store) (c b : Nat) (B : Int) (rs : List Str) (ls : List Lk) (Q : D → Store → Prop), PotAt st c b → b + 40 < LIM → 90 ≤ B → IsW B rs ls → (∀ ls' st', IsW (B + 90) rs ls' → Nxt c (b + 40) st st' → Q (worldD rs ls') st') → Cl m [.cell c, worldD rs ls] st Q
set_option maxHeartbeats 8000000 in
theorem near_ok {T : Tab} (hT : Has T "_law_take" P_take) (hO : Has T "_law_of" P_of) (hS : Has T "_law_shifted" P_shifted) (hWo : Has T "_law_without" P_without) (hWi : Has T "_law_with" P_with) (hTu : Has T "_law_turned" P_turned) (hF : Has T "_law_far" P_far) : P_near (den T N__law_near 2 c__law_near) := by
  intro st c b B rs ls Q hp hb hB w k
  have hlim : b + 40 < 2 ^ 60 := hb
  refine Cl.den rfl (i__law_near _ _) ?_
  unfold c__law_near
  (repeat (exists run1))
  refine Ee.callH hT fun m1 hm1 => ?_
  (repeat (exists run1))
  refine hm1 _ _ b _ _ hp (by decide) (by decide) (by show _ < 2 ^ 60; omega) fun t s1 ht hn1 => ?_
  (repeat (exists run1))
  refine pr_rng ⟨by decide, by decide, by omega, by omega, by rw [sizeLine_eq]; omega⟩ ?_
  refine Lp.inv (fun i e s => ∃ (s3 s4 s5 s6 s7 s8 s9 s10 s11 : Sl) (ls' : List Lk), e = [.val (.cell c), .val (worldD rs ls), .val (worldD rs ls'), s3, s4, s5, s6, s7, s8, s9, s10, s11] ∧ IsW (B + 30 * (i : Int)) rs ls' ∧ Nxt c (b + 1 + 12 * i) st s) ⟨.un, .un, .un, .un, .un, .un, .un, .un, .un, ls, rfl, w.mono (by omega), hn1⟩ ?_ ?_
  · rintro i d e s hd ⟨s3, s4, s5, s6, s7, s8, s9, s10, s11, ls', rfl, w', hns⟩
    rw [List.getElem?_map] at hd
    obtain ⟨q, hq, rfl⟩ := Option.map_eq_some_iff.mp hd
    have hi : i < 3 := by
      have := (List.getElem?_eq_some_iff.mp hq).1
      rw [List.length_range] at this
      omega
    have hlam : 1 ≤ ls'.length → (ls'.map lkD) ≠ [] := fun h h2 => by
      have := congrArg List.length h2
      rw [List.length_map] at this
      simp at this
      rw [this] at h
      simp at h
    (repeat (exists run1))
    refine Ee.callH hT fun m2 hm2 => ?_
    (repeat (exists run1))
    refine hm2 _ _ (b + 1 + 12 * i) _ _ hns.pot (by decide) (by decide) (by show _ < 2 ^ 60; omega) fun wy s2 hwy hn2 => ?_
    unfold worldD
    (repeat (first | exists run1 | refine pr_subt rfl ?_))
    refine ⟨rfl, ?_⟩
    (repeat (exists run1))
    have hN2 := hns.trans hn2
    have fin : ∀ e s', RestOk c b B rs ls st i e s' → (∃ (s3 s4 s5 s6 s7 s8 s9 s10 s11 : Sl) (ls' : List Lk), e = [.val (.cell c), .val (worldD rs ls), .val (worldD rs ls'), s3, s4, s5, s6, s7, s8, s9, s10, s11] ∧ IsW (B + 30 * ((i + 1 : Nat) : Int)) rs ls' ∧ Nxt c (b + 1 + 12 * (i + 1)) st s') := fun e s' h => by
      obtain ⟨s3, s4, s5, s6, s7, s8, s9, s10, s11, ls', e1, w1, n1⟩ := h
      exact ⟨s3, s4, s5, s6, s7, s8, s9, s10, s11, ls', e1, w1.mono (by omega), n1.mono (by omega)⟩
    refine ⟨fun g1 => ?_, fun g1 => ?_⟩
    · (repeat (exists run1))
      refine pr_nepl (ls_pl w') rfl (ls_dp ls') (by show 1 ≤ 60; decide) fun z hz => ?_
      (repeat (exists run1))
      refine ⟨fun g2 => ?_, fun g2 => ?_⟩
      · have hne : ls'.map lkD ≠ [] := fun h => by
          have := hz.mpr (by unfold lsD; rw [h])
          rw [g2] at this
          cases this
        (repeat (exists run1))
        refine Ee.callH hO fun m3 hm3 => ?_
        (repeat (exists run1))
        refine hm3.tup _ _ (b + 1 + 12 * i + 1) _ _ hN2.pot (by show _ < 2 ^ 60; omega) hne (by rw [List.length_map]; have := w'.few; omega) fun x hx s3' hn3 => ?_
        obtain ⟨l, hl, rfl⟩ := List.mem_map.mp hx
        refine ⟨_, rfl, rfl, ?_⟩
        (repeat (exists run1))
        refine Ee.callH hO fun m4 hm4 => ?_
        (repeat (exists run1))
        refine hm4.lst _ _ (b + 1 + 12 * i + 1 + 1) _ _ hn3.pot (by show _ < 2 ^ 60; omega) (by simp) (by decide) fun x hx s4' hn4 => ?_
        have hmo : ∃ mo : Int, x = .int mo ∧ 1 ≤ mo ∧ mo ≤ 30 := by
          simp only [List.mem_cons, List.not_mem_nil, or_false] at hx
          rcases hx with h | h | h | h | h | h <;> exact ⟨_, h, by decide, by decide⟩
        obtain ⟨mo, rfl, hmo1, hmo2⟩ := hmo
        have hN4 := (hN2.trans hn3).trans hn4
        have fin2 : ∀ (t : Int) (ls2 : List Lk), t ≤ 30 → 1 ≤ l.2.2.1 + t → 1 ≤ l.2.2.2 + t → WithL ls' l.1 l.2.1 (l.2.2.1 + t) (l.2.2.2 + t) ls2 → IsW (B + 30 * (i : Int) + 30) rs ls2 := fun t ls2 h1 h2 h3 hw => by
          have hlk := w'.lk l hl
          exact hw.isW (w'.mono (by omega)) hlk.1 h2 (by omega) h3 (by omega) (.inr ⟨l, hl, isPr_iff.mpr ⟨rfl, rfl⟩⟩)
        (repeat (exists run1))
        refine ⟨fun g3 => ?_, fun g3 => ?_⟩
        · (repeat (exists run1))
          refine Ee.callH hS fun m5 hm5 => ?_
          (repeat (exists run1))
          refine ⟨fun g4 => ?_, fun g4 => ?_⟩
          · rw [decide_eq_true_eq] at g4
            (repeat (exists run1))
            refine hm5.some _ _ rs ls' l _ _ w' hl fun ls2 h2 => ?_
            (repeat (exists run1))
            exact fin _ _ ⟨_, _, _, _, _, _, _, _, _, ls2, rfl, fin2 _ _ (by omega) (by split at g4 <;> omega) (by split at g4 <;> omega) h2, hN4.mono (by omega)⟩
          · have hlk := w'.lk l hl
            (repeat (exists run1))
            refine hm5.some _ _ rs ls' l _ _ w' hl fun ls2 h2 => ?_
            (repeat (exists run1))
            exact fin _ _ ⟨_, _, _, _, _, _, _, _, _, ls2, rfl, fin2 _ _ (by omega) (by omega) (by omega) h2, hN4.mono (by omega)⟩
        · have hlk := w'.lk l hl
          (repeat (exists run1))
          refine Ee.callH hS fun m5 hm5 => ?_
          (repeat (exists run1))
          refine ⟨fun h => (by cases h), fun _ => ?_⟩
          (repeat (exists run1))
          refine hm5.some _ _ rs ls' l _ _ w' hl fun ls2 h2 => ?_
          (repeat (exists run1))
          exact fin _ _ ⟨_, _, _, _, _, _, _, _, _, ls2, rfl, fin2 _ _ (by omega) (by omega) (by omega) h2, hN4.mono (by omega)⟩
      · exact near_rest hO hWo hWi hTu hF (by omega) hB w' hN2 fun e s' h => fin e s' h
    · exact exb ⟨fun h => (by cases h), fun _ => near_rest hO hWo hWi hTu hF (by omega) hB w' hN2 fun e s' h => fin e s' h⟩
  · rintro e s ⟨s3, s4, s5, s6, s7, s8, s9, s10, s11, ls', rfl, w', hns⟩
    rw [List.length_map, List.length_range] at w' hns
    (repeat (exists run1))
    exact k ls' s (w'.mono (by omega)) (hns.mono (by omega))
end Q

set_option Elab.async false
set_option linter.all false
set_option maxRecDepth 100000
set_option maxHeartbeats 1000000
namespace Q
open PySem PySem.Spec PyProof.Rows L2
local macro_rules
  | `(tactic| exists run1) => `(tactic| (first
      | with_reducible refine Ex.seq ?_ | with_reducible refine Ex.set ?_ | with_reducible refine Ex.ret ?_ | with_reducible refine Ex.exp ?_ | with_reducible refine Ex.setOwn ?_ | with_reducible refine Ex.unpack ?_ | with_reducible refine Ex.par ?_ | with_reducible refine Ex.put ?_ | with_reducible refine Ex.app ?_ | with_reducible refine Ex.ext ?_ | with_reducible refine Ex.iff ?_ | with_reducible refine Ex.skip ?_ | with_reducible refine Ex.retN ?_ | with_reducible refine Ex.cont ?_ | with_reducible refine Ex.puts ?_ | with_reducible refine Ex.setA ?_ | with_reducible refine Ex.loop ?_
      | (with_reducible refine Ee.isv ?_; refine Ee.var rfl ?_)
      | with_reducible refine Ee.int ?_ | with_reducible refine Ee.bl ?_ | with_reducible refine Ee.str ?_ | with_reducible refine Ee.non ?_ | with_reducible refine Ee.tup ?_ | with_reducible refine Ee.lst ?_ | with_reducible refine Ee.bin ?_ | with_reducible refine Ee.neg ?_ | with_reducible refine Ee.cmp ?_ | with_reducible refine Ee.chain ?_ | with_reducible refine Ee.and ?_ | with_reducible refine Ee.or ?_ | with_reducible refine Ee.not ?_ | with_reducible refine Ee.ife ?_ | with_reducible refine Ee.sub ?_ | with_reducible refine Ee.slice ?_ | with_reducible refine Ee.rev ?_ | with_reducible refine Ee.sortset ?_ | with_reducible refine Ee.isi ?_ | with_reducible refine Ee.blt ?_ | with_reducible refine Ee.dct ?_ | with_reducible refine Ee.dnewT ?_ | with_reducible refine Ee.dnewK ?_
      | with_reducible refine El.cons ?_ | with_reducible refine El.nil ?_ | with_reducible refine Ep.nil ?_ | with_reducible refine Ep.val ?_ | with_reducible refine Ep.own ?_ | with_reducible refine Eo.no ?_ | with_reducible refine Eo.yes ?_ | with_reducible refine Eb.no ?_ | with_reducible refine Eb.yes ?_
      | with_reducible refine Ei.exv ?_ | with_reducible refine Ei.ex rfl ?_ | with_reducible refine Ei.rng1 ?_ | with_reducible refine Ei.rng2 ?_ | with_reducible refine Ei.enum ?_ | with_reducible refine Ei.zip ?_
      | with_reducible refine Aft.nx ?_ | with_reducible refine Aft.rt ?_ | with_reducible refine Aft.ct ?_ | with_reducible refine Trn.nx ?_ | with_reducible refine Trn.rt ?_ | with_reducible refine Trn.ct ?_ | with_reducible refine Fin.rt ?_ | with_reducible refine Fin.nx ?_
      | with_reducible refine Ts.mk ?_ | with_reducible refine Pt.mk ?_ | with_reducible refine exb ?_ | with_reducible refine exi ?_ | with_reducible refine exii ?_
      | with_reducible refine pr_add ?_ | with_reducible refine pr_sub ?_ | with_reducible refine pr_gt ?_ | with_reducible refine pr_le ?_ | with_reducible refine pr_ge ?_ | with_reducible refine pr_lt ?_ | with_reducible refine pr_lts ?_ | with_reducible refine pr_eqi ?_ | with_reducible refine pr_nei ?_ | with_reducible refine pr_eqs ?_ | with_reducible refine pr_nes ?_ | with_reducible refine pr_eqb ?_ | with_reducible refine pr_in ?_ | with_reducible refine pr_nin ?_
      | with_reducible refine pr_len_l ?_ | with_reducible refine pr_len_t ?_ | with_reducible refine pr_len_r ?_ | with_reducible refine pr_len_k ?_ | with_reducible refine pr_abs ?_ | with_reducible refine pr_max ?_ | with_reducible refine pr_min ?_ | with_reducible refine pr_int ?_ | with_reducible refine pr_intb ?_ | with_reducible refine pr_tup_l ?_ | with_reducible refine pr_list_l ?_ | with_reducible refine pr_list_t ?_ | with_reducible refine pr_sorted ?_ | with_reducible refine pr_repr ?_
      | with_reducible refine pr_items_l ?_ | with_reducible refine pr_items_t ?_ | with_reducible refine pr_keys_l ?_ | with_reducible refine pr_keys_t ?_ | with_reducible refine pr_keys_k ?_ | with_reducible refine pr_keys_kt ?_ | with_reducible refine pr_sl_l ?_ | with_reducible refine pr_sl_t ?_ | with_reducible refine pr_rev ?_ | with_reducible refine pr_bind1 ?_ | with_reducible refine pr_binds1 ?_
      | (with_reducible refine pr_cell (by assumption) ?_ ?_; exact rfl)
      | rw [sF_vals rfl]))
/-! ### repr of small data -/
mutual
def rpD : D → Bool
  | .non => true
  | .bl _ => true
  | .int i => decide (i.natAbs < 10 ^ 12)
  | .str s => s.cps.toList.all fun c => decide (c < 16 ^ 8)
  | .tup xs => rpL xs
  | .lst xs => rpL xs
  | _ => false
def rpL : List D → Bool
  | [] => true
  | x :: xs => rpD x && rpL xs
end
mutual
def wtD : D → Nat
  | .str s => s.length
  | .int _ => 41
  | .tup xs => wtL xs
  | .lst xs => wtL xs
  | _ => 0
def wtL : List D → Nat
  | [] => 0
  | x :: xs => wtD x + 1 + wtL xs
end
theorem log40 {n : Nat} (h : n < 10 ^ 12) : n.log2 < 40 := log2_lt (Nat.lt_of_lt_of_le h (by decide)) (by decide)
mutual
theorem rp_py : ∀ (d : D), rpD d = true → ∃ p, D.py d = some p ∧ p.leavesShort 13 = true ∧ p.showable = true ∧ p.hasDict = false ∧ p.weight ≤ wtD d ∧ p.depth = dpD d
  | .non, _ => ⟨.none, by simp only [D.py], by simp only [PyData.leavesShort], by simp only [PyData.showable], by simp only [PyData.hasDict], by simp only [PyData.weight]; exact Nat.zero_le _, by simp only [PyData.depth, dpD]⟩
  | .bl b, _ => ⟨.bool b, by simp only [D.py], by simp only [PyData.leavesShort], by simp only [PyData.showable], by simp only [PyData.hasDict], by simp only [PyData.weight]; exact Nat.zero_le _, by simp only [PyData.depth, dpD]⟩
  | .int i, h => by
    have h : i.natAbs < 10 ^ 12 := by simpa only [rpD, decide_eq_true_eq] using h
    refine ⟨.int i, by simp only [D.py], ?_, ?_, by simp only [PyData.hasDict], ?_, by simp only [PyData.depth, dpD]⟩
    · have := int_text_length_le10 (k := 12) (by decide) h
      rw [PyData.leavesShort, decide_eq_true_eq]
      show (Str.ofString (toString i)).length ≤ 13
      have e : (Str.ofString (toString i)).length = (toString i).length := PySem.ofString_length _
      omega
    · have := log40 h
      rw [PyData.showable, decide_eq_true_eq]
      omega
    · have := log40 h
      simp only [PyData.weight, wtD]
      split <;> omega
  | .str s, h => ⟨.str s, by simp only [D.py], by simpa only [rpD, PyData.leavesShort] using h, by simp only [PyData.showable], by simp only [PyData.hasDict], by simp only [PyData.weight, wtD]; exact Nat.le_refl _, by simp only [PyData.depth, dpD]⟩
  | .tup xs, h => by
    obtain ⟨ps, e, a, b, c, w, z⟩ := rp_pyL xs (by simpa only [rpD] using h)
    refine ⟨.tuple ps, by simp only [D.py, e, Option.map_some], by simpa only [PyData.leavesShort] using a, by simpa only [PyData.showable] using b, by simpa only [PyData.hasDict] using c, by simpa only [PyData.weight, wtD] using w, by simp only [PyData.depth, dpD, z]⟩
  | .lst xs, h => by
    obtain ⟨ps, e, a, b, c, w, z⟩ := rp_pyL xs (by simpa only [rpD] using h)
    refine ⟨.list ps, by simp only [D.py, e, Option.map_some], by simpa only [PyData.leavesShort] using a, by simpa only [PyData.showable] using b, by simpa only [PyData.hasDict] using c, by simpa only [PyData.weight, wtD] using w, by simp only [PyData.depth, dpD, z]⟩
theorem rp_pyL : ∀ (ds : List D), rpL ds = true → ∃ ps, D.pyL ds = some ps ∧ PyData.leavesShortAll 13 ps = true ∧ PyData.showableAll ps = true ∧ PyData.hasDictAll ps = false ∧ PyData.weightAll ps ≤ wtL ds ∧ PyData.depthAll ps = dpL ds
  | [], _ => ⟨[], by simp only [D.pyL], by simp only [PyData.leavesShortAll], by simp only [PyData.showableAll], by simp only [PyData.hasDictAll], by simp only [PyData.weightAll, wtL]; exact Nat.le_refl _, by simp only [PyData.depthAll, dpL]⟩
  | d :: ds, h => by
    have h' : rpD d = true ∧ rpL ds = true := by simpa only [rpL, Bool.and_eq_true] using h
    obtain ⟨p, e1, a1, b1, c1, w1, z1⟩ := rp_py d h'.1
    obtain ⟨ps, e2, a2, b2, c2, w2, z2⟩ := rp_pyL ds h'.2
    refine ⟨p :: ps, by simp only [D.pyL, e1, e2], by simp only [PyData.leavesShortAll, a1, a2, Bool.and_true], by simp only [PyData.showableAll, b1, b2, Bool.and_true], by simp only [PyData.hasDictAll, c1, c2, Bool.or_false], by simp only [PyData.weightAll, wtL]; omega, by simp only [PyData.depthAll, dpL, z1, z2]⟩
end
theorem repr_small {d : D} (h : rpD d = true) (hw : wtD d ≤ 2 ^ 20) (hd : dpD d ≤ 60) : ∃ s, reprD d = some (.str s) := by
  obtain ⟨p, e, a, b, c, w, z⟩ := rp_py d h
  have hs := PyData.shown_fits (B := 13) (by decide) (by decide) a (Nat.le_trans w hw)
  refine ⟨p.shown, ?_⟩
  unfold reprD
  rw [e]
  simp only [b, c, hs, z, hd, decide_true, Bool.not_false, Bool.and_true, if_true]
theorem pr_reprs {d : D} {Q : D → Prop} (h : rpD d = true) (hw : wtD d ≤ 2 ^ 20) (hd : dpD d ≤ 60) (k : ∀ s, reprD d = some (.str s) → Q (.str s)) : Pr (reprD d) Q := by
  obtain ⟨s, e⟩ := repr_small h hw hd
  exact ⟨_, e, k s e⟩
theorem rp_name {s : Str} (h : IsName s) : rpD (.str s) = true := by
  rw [rpD, List.all_eq_true]
  intro c hc
  have := h.lets c hc
  unfold Letter at this
  rw [decide_eq_true_eq]
  omega
theorem wt_name {s : Str} (h : IsName s) : wtD (.str s) ≤ 8 := h.eight
theorem rpL_all {ds : List D} : rpL ds = true ↔ ∀ d ∈ ds, rpD d = true := by
  induction ds with
  | nil => simp [rpL]
  | cons x r ih => simp only [rpL, Bool.and_eq_true, ih, List.mem_cons, forall_eq_or_imp]
theorem wtL_le {ds : List D} {n : Nat} (h : ∀ d ∈ ds, wtD d ≤ n) : wtL ds ≤ ds.length * (n + 1) := by
  induction ds with
  | nil => exact Nat.zero_le _
  | cons x r ih =>
    have h1 := h x (List.mem_cons_self ..)
    have h2 := ih fun d hd => h d (List.mem_cons_of_mem _ hd)
    rw [wtL, List.length_cons, Nat.add_mul]
    omega
theorem rs_rp {ss : List Str} (h : ∀ s ∈ ss, IsName s) : rpD (rsD ss) = true := rpL_all.mpr fun d hd => by
  obtain ⟨s, hs, rfl⟩ := List.mem_map.mp hd
  exact rp_name (h s hs)
theorem rs_wt {ss : List Str} (h : ∀ s ∈ ss, IsName s) : wtD (rsD ss) ≤ ss.length * 9 := by
  have : wtL (ss.map D.str) ≤ (ss.map D.str).length * (8 + 1) := wtL_le fun d hd => by
    obtain ⟨s, hs, rfl⟩ := List.mem_map.mp hd
    exact wt_name (h s hs)
  rw [List.length_map] at this
  exact this
theorem rs_dp (ss : List Str) : dpD (rsD ss) ≤ 60 := by
  have : dpL (ss.map D.str) ≤ 0 := dpL_le.mpr fun d hd => by
    obtain ⟨s, hs, rfl⟩ := List.mem_map.mp hd
    exact Nat.le_refl 0
  show dpL (ss.map D.str) + 1 ≤ 60
  omega
/-! ### pots, and the law's frame -/
def P_pots (m : FS) : Prop := ∀ (st : Store) (ns : List Int) (n : Nat) (Q : D → Store → Prop), 1 ≤ n → n ≤ 100 → (∀ (j : Nat) (st' : Store), st'.length = st.length + j → (∀ i, i < j → PotAt st' (st.length + i) 0) → Q (.lst ((List.range j).map fun i => .cell (st.length + i))) st') → Cl m [.scr ns, .int n] st Q
theorem pots_ok {T : Tab} (h1 : Has T "_law_pot" P_pot) : P_pots (den T N__law_pots 2 c__law_pots) := by
  intro st ns n Q hn1 hn2 k
  refine Cl.den rfl (i__law_pots _ _) ?_
  unfold c__law_pots
  (repeat (exists run1))
  refine Ee.comp_inv ?_
  (repeat (exists run1))
  generalize hj : (if (if (ns.length : Int) < (n : Int) then (ns.length : Int) else (n : Int)) > 1 then (if (ns.length : Int) < (n : Int) then (ns.length : Int) else (n : Int)) else 1) = j
  have hj1 : 1 ≤ j ∧ j ≤ 100 := by rw [← hj]; split <;> split <;> omega
  refine pr_rng ⟨by decide, by decide, by omega, by omega, by rw [sizeLine_eq]; omega⟩ ?_
  refine ⟨fun i acc s => acc = (List.range i).map (fun i => D.cell (st.length + i)) ∧ s.length = st.length + i ∧ ∀ l, l < i → PotAt s (st.length + l) 0, ⟨rfl, rfl, fun l hl => absurd hl (Nat.not_lt_zero _)⟩, ?_, ?_⟩
  · rintro i d acc s hd ⟨rfl, hsl, hpt⟩
    rw [List.getElem?_map] at hd
    obtain ⟨q, hq, rfl⟩ := Option.map_eq_some_iff.mp hd
    have hqi : q < 100 := by
      have := List.mem_of_getElem? hq
      rw [List.mem_range] at this
      omega
    unfold Cp
    (repeat (exists run1))
    refine ⟨fun _ => ?_, fun h => (by cases h)⟩
    refine Ee.callH h1 fun m hm => ?_
    (repeat (exists run1))
    rw [Int.zero_add]
    refine hm _ ns q _ (by omega) fun own seed h1 h2 h3 h4 => ?_
    refine ⟨?_, ?_, ?_⟩
    · rw [List.range_succ, List.map_append, hsl]; rfl
    · rw [List.length_append, hsl]; rfl
    · intro l hl
      rcases Nat.lt_succ_iff_lt_or_eq.mp hl with h | h
      · obtain ⟨a1, a2, a3, e, b⟩ := hpt l h
        exact ⟨a1, a2, a3, by rw [List.getElem?_append_left (by omega)]; exact e, b⟩
      · subst h
        refine ⟨own, seed, 0, ?_, h1, h2, h3, h4, Int.le_refl 0, Int.le_refl 0⟩
        rw [← hsl, List.getElem?_append_right (Nat.le_refl _), Nat.sub_self]; rfl
  · rintro acc s ⟨rfl, hsl, hpt⟩
    rw [List.length_map, List.length_range] at *
    (repeat (exists run1))
    exact k _ _ hsl hpt
def NL : List Str := ["_law_script", "_law_pot_here"]
def hL : Hint := ⟨[], [], false⟩
def cL (n : Int) : CS := (.ret (.blt "all" (.cons (.comp (.call "_law_fine" (.cons (.var 1) .nil)) (.nm 1) (.ex (.call "_law_pots" (.cons (.var 0) (.cons (.int n) .nil)))) .no [1]) .nil)))
theorem iL (a0 : D) : ini NL [a0] = [.val a0, .un] := rfl
def P_fine (m : FS) : Prop := ∀ (st : Store) (c : Nat) (Q : D → Store → Prop), PotAt st c 0 → (∀ b st', Nxt c b st st' → Q (.bl true) st') → Cl m [.cell c] st Q
theorem law_ok {T : Tab} {n : Nat} (hn1 : 1 ≤ n) (hn2 : n ≤ 100) (h1 : Has T "_law_pots" P_pots) (h2 : Has T "_law_fine" P_fine) (ns : List Int) : ∃ st', den T NL 1 (cL n) [.scr ns] [] = some (.bl true, st') := by
  have : Cl (den T NL 1 (cL n)) [.scr ns] [] fun d _ => d = .bl true := by
    refine Cl.den rfl (iL _) ?_
    unfold cL
    (repeat (exists run1))
    refine Ee.comp_inv ?_
    (repeat (exists run1))
    refine Ee.callH h1 fun m hm => ?_
    (repeat (exists run1))
    refine hm _ ns n _ hn1 hn2 fun j st' hl hp => ?_
    (repeat (exists run1))
    refine ⟨fun i acc s => acc = (List.range i).map (fun _ => D.bl true) ∧ ∀ l, i ≤ l → l < j → PotAt s (0 + l) 0, ⟨rfl, fun l _ hl => hp l hl⟩, ?_, ?_⟩
    · rintro i d acc s hd ⟨rfl, hpt⟩
      rw [List.getElem?_map] at hd
      obtain ⟨q, hq, rfl⟩ := Option.map_eq_some_iff.mp hd
      obtain ⟨hij, e⟩ := List.getElem?_eq_some_iff.mp hq
      rw [List.length_range] at hij
      rw [List.getElem_range] at e
      subst e
      unfold Cp
      (repeat (exists run1))
      refine ⟨fun _ => ?_, fun h => (by cases h)⟩
      refine Ee.callH h2 fun m2 hm2 => ?_
      (repeat (exists run1))
      refine hm2 _ _ _ (hpt i (Nat.le_refl _) hij) fun b s2 hn => ?_
      refine ⟨by rw [List.range_succ, List.map_append]; rfl, fun l hl hlj => ?_⟩
      obtain ⟨a1, a2, a3, e, r⟩ := hpt l (by omega) hlj
      exact ⟨a1, a2, a3, by rw [hn.2.1 _ (by show 0 + l ≠ 0 + i; omega)]; exact e, r⟩
    · rintro acc s ⟨rfl, hpt⟩
      (repeat (exists run1))
      refine pr_all (bools_true _) ?_
      rw [all_true]
      (repeat (exists run1))
      rfl
  obtain ⟨d, s, e, rfl⟩ := this
  exact ⟨s, e⟩
end Q

set_option Elab.async false
set_option linter.all false
set_option maxRecDepth 100000
set_option maxHeartbeats 1000000
namespace Q
open PySem PySem.Spec PyProof.Rows L2 He
/-! ### defs by addresses -/
structure DefP where
  ad : PySem.W.Frag → Addr
  name : Str
  qual : Str
  params : Arguments
  body : List Stmt
  scope : Scope
/-- the function that stands at a -/
def seen (K : PySem.W.Frag) (a : Addr) : Option FuncData := match (K.lookup a).map (fun o : Obj => o.data) with
  | some (.func g) => some g
  | _ => none
theorem seen_at {K : PySem.W.Frag} {a : Addr} {g : FuncData} (h : seen K a = some g) : ∃ c t l, K.lookup a = some ⟨c, t, .func g, l⟩ := by
  unfold seen at h
  generalize hz : K.lookup a = z at h
  rcases z with _ | ⟨c, t, x, l⟩
  · cases h
  · cases x with
    | func g' =>
      have : g' = g := Option.some.inj h
      subst this
      exact ⟨c, t, l, rfl⟩
    | _ => cases h
/-- the parts of it that the text says -/
def said (g : FuncData) : Str × Str × Arguments × FuncBody × Scope × Addr × List (Str × Addr) × Addr := (g.name, g.qualname, g.params, g.body, g.scope, g.globals, g.closure, g.builtins)
def fnWp (K : PySem.W.Frag) (a : Addr) : FnW := (seen K a).map said
def DefP.val (d : DefP) : FnW := some (d.name, d.qual, d.params, .stmts d.body, d.scope, mainGlobals, [], builtinsNs)
/-- no defaults, a code object of its name, an address that stays -/
def DefP.ok (K : PySem.W.Frag) (d : DefP) : Bool := match seen K (d.ad K) with
  | none => false
  | some g => kwdB K g.kwdefaults [] && (dflB K g.defaults [] && (PySem.W.codeIn K g.code d.qual && PySem.W.keepIn K (.ref (d.ad K))))
theorem DefP.funD {K : PySem.W.Frag} {d : DefP} (e : fnWp K (d.ad K) = d.val) (c : d.ok K = true) : ∃ fd, FunD K d.name d.qual d.params d.body d.scope [] [] (d.ad K) fd := by
  unfold fnWp at e
  unfold DefP.ok at c
  generalize hg : seen K (d.ad K) = z at e c
  cases z with
  | none => cases c
  | some g =>
    obtain ⟨q1, c1⟩ := ba c
    obtain ⟨q2, c2⟩ := ba c1
    obtain ⟨q3, q4⟩ := ba c2
    clear c c1 c2
    obtain ⟨cl, t, sl, hl⟩ := seen_at hg
    have e' : said g = (d.name, d.qual, d.params, .stmts d.body, d.scope, mainGlobals, [], builtinsNs) := Option.some.inj e
    rcases g with ⟨a1, a2, a3, a4, a5, a6, a7, a8, a9, a10, a11, a12, a13, a14, a15⟩
    unfold said at e'
    dsimp only at e'
    rw [Prod.mk.injEq, Prod.mk.injEq, Prod.mk.injEq, Prod.mk.injEq, Prod.mk.injEq, Prod.mk.injEq, Prod.mk.injEq] at e'
    obtain ⟨rfl, rfl, rfl, rfl, rfl, rfl, rfl, rfl⟩ := e'
    refine ⟨_, ⟨cl, t, a8, a9, a10, a11, a12, a13, a14, sl, rfl, hl, q3, dflB_ok q2, kwdB_ok q1⟩, q4⟩
/-! ### properties -/
def gpA (K : PySem.W.Frag) (c f : Str) : Addr := match PySem.W.recIn K (ma K (ga K c) f) "property" with
  | some (.ref g :: _) => g
  | _ => 0
def propB (K : PySem.W.Frag) (q : Str × Str) : Bool := eqO (PySem.W.findIn K (.ref (ga K q.1)) q.2) (some (some (.ref (ma K (ga K q.1) q.2)))) && (eqO (PySem.W.specialIn K (.ref (ma K (ga K q.1) q.2)) "__get__") (some (some (.builtin "property.__get__"))) &&
  (decide (PySem.W.takesIn K (.ref (ma K (ga K q.1) q.2)) = some true) && (match PySem.W.recIn K (ma K (ga K q.1) q.2) "property" with
    | some (.ref _ :: _) => true
    | _ => false)))
theorem propB_ok {K : PySem.W.Frag} {c f : Str} (h : propB K (c, f) = true) : PropOf K (ga K c) f (ma K (ga K c) f) (gpA K c f) := by
  obtain ⟨h1, h2⟩ := ba h
  obtain ⟨h2, h3⟩ := ba h2
  obtain ⟨h3, h4⟩ := ba h3
  refine ⟨eqO_ok h1, eqO_ok h2, of_decide_eq_true h3, ?_⟩
  unfold gpA
  dsimp only at h4
  split at h4
  · rename_i g r e
    exact ⟨r, by rw [e]⟩
  · cases h4
def obsP (fa : List Fa) (pr : List (Str × Str)) (fn : List DefP) (K : PySem.W.Frag) : AlD := ((fa.all fun f => f.ok K) && ((pr.all fun q => propB K q) && fn.all fun d => d.ok K), fn.map fun d => fnWp K (d.ad K))
def valP (fn : List DefP) : AlD := (true, fn.map DefP.val)
def SaysP (fa : List Fa) (pr : List (Str × Str)) (fn : List DefP) (K : PySem.W.Frag) : Prop := obsP fa pr fn K = valP fn
def obsPG (n : Nat) (fa : List Fa) (pr : List (Str × Str)) (fn : List DefP) (g : Addr → Option Obj) : AlD := obsP fa pr fn (frG g (asD g n))
def hookP (n : Nat) (fa : List Fa) (pr : List (Str × Str)) (fn : List DefP) : PySem.W.Hook where
  α := AlD
  obs := fun s => obsPG n fa pr fn s.heap.get?
  val := fun _ => valP fn
  says := fun _ h => ∃ K : PySem.W.Frag, K.In h ∧ SaysP fa pr fn K
  of := fun _ _ e => ⟨_, frG_in, e⟩
  keeps := fun _ _ _ ⟨K, hK, c⟩ k => ⟨K, PySem.W.Frag.In.keeps hK k, c⟩
theorem obsPG_eq {n : Nat} {fa : List Fa} {pr : List (Str × Str)} {fn : List DefP} {g : Addr → Option Obj} {s : Shared} (h : ∀ a, g a = s.heap.get? a) : obsPG n fa pr fn g = (hookP n fa pr fn).obs s := by
  have e : g = s.heap.get? := funext h
  rw [e] <;> rfl
section
variable {fa : List Fa} {pr : List (Str × Str)} {fn : List DefP} {K : PySem.W.Frag}
theorem SaysP.fact (c : SaysP fa pr fn K) (i : Nat) {f : Fa} (h : fa[i]? = some f := by rfl) : f.ok K = true := by
  have c1 := (ba (show ((fa.all fun f => f.ok K) && ((pr.all fun q => propB K q) && fn.all fun d => d.ok K)) = true from congrArg (fun z : AlD => z.1) c)).1
  exact List.all_eq_true.mp c1 f (List.mem_of_getElem? h)
theorem SaysP.allf (c : SaysP fa pr fn K) {f : Fa} (h : f ∈ fa) : f.ok K = true := by
  have c1 := (ba (show ((fa.all fun f => f.ok K) && ((pr.all fun q => propB K q) && fn.all fun d => d.ok K)) = true from congrArg (fun z : AlD => z.1) c)).1
  exact List.all_eq_true.mp c1 f h
theorem SaysP.prop (c : SaysP fa pr fn K) (i : Nat) {x y : Str} (h : pr[i]? = some (x, y) := by rfl) : PropOf K (ga K x) y (ma K (ga K x) y) (gpA K x y) := by
  have c1 := (ba (ba (show ((fa.all fun f => f.ok K) && ((pr.all fun q => propB K q) && fn.all fun d => d.ok K)) = true from congrArg (fun z : AlD => z.1) c)).2).1
  exact propB_ok (List.all_eq_true.mp c1 (x, y) (List.mem_of_getElem? h))
theorem SaysP.def_ (c : SaysP fa pr fn K) (i : Nat) {d : DefP} (h : fn[i]? = some d := by rfl) : ∃ fd, FunD K d.name d.qual d.params d.body d.scope [] [] (d.ad K) fd := by
  have c2 := (ba (ba (show ((fa.all fun f => f.ok K) && ((pr.all fun q => propB K q) && fn.all fun d => d.ok K)) = true from congrArg (fun z : AlD => z.1) c)).2).2
  have e : fn.map (fun d => fnWp K (d.ad K)) = fn.map DefP.val := congrArg (fun z : AlD => z.2) c
  have e2 : (fn.map fun d => fnWp K (d.ad K))[i]? = (fn.map DefP.val)[i]? := by rw [e]
  rw [List.getElem?_map, List.getElem?_map, h] at e2
  exact DefP.funD (Option.some.inj e2) (List.all_eq_true.mp c2 d (List.mem_of_getElem? h))
end
/-! ### the chain of defs -/
abbrev PL : Type := List (Str × (FS → Prop))
def All (T : Tab) (L : PL) : Prop := ∀ q ∈ L, Has T q.1 q.2
def St (P : Program) (w : World) (K : PySem.W.Frag) (mg : Str → Option Value) (B : Tab → Prop) (k : Nat) (L : PL) : Prop :=
  ∃ T : Tab, (∀ base : Heap, K.In base → base.Ns mainGlobals mg → TOk P w K mg base k T) ∧ B T ∧ All T L
theorem All.at {T : Tab} {L : PL} (h : All T L) (i : Nat) {x : Str} {Pm : FS → Prop} (e : L[i]? = some (x, Pm) := by rfl) : Has T x Pm := h (x, Pm) (List.mem_of_getElem? e)
def fresh (x : Str) (L : PL) : Bool := L.all fun q => !decide (q.1 = x)
theorem All.add {T : Tab} {L : PL} {x : Str} {m : FS} {Pm : FS → Prop} (h : All T L) (hx : fresh x L = true) (hm : Pm m) : All (T.add x m) ((x, Pm) :: L) := fun q hq => by
  rcases List.mem_cons.mp hq with e | e
  · rw [e]
    exact Has.new hm
  · refine (h q e).add fun z => ?_
    have := List.all_eq_true.mp hx q e
    rw [decide_eq_true z] at this
    cases this
section
variable {P : Program} {w : World} {K : PySem.W.Frag} {mg : Str → Option Value} {B : Tab → Prop} {k : Nat} {L : PL}
theorem St.def_ {x qual : Str} {params : Arguments} {body : List Stmt} {scope : Scope} {f : Addr} {fd : FuncData} {N ps : List Str} {hint : Hint} {n : Nat} {c : CS} {Pm : FS → Prop} (h : St P w K mg B k L) (hB : ∀ T x m, B T → B (T.add x m)) (g : mg x = some (.ref f)) (F : FunD K x qual params body scope [] [] f fd) (S : FnScope N ps scope) (hb : Binds K fd ps [])
    (hc : compSs (compS hint scope N n) body = some c) (hx : fresh x L = true) (hP : ∀ T, All T L → B T → Pm (den T N ps.length c)) : St P w K mg B (k + 2) ((x, Pm) :: L) := by
  obtain ⟨T, h1, h2, h3⟩ := h
  exact ⟨T.add x (den T N ps.length c), fun base X G => ((h1 base X G).mono (by omega)).add g F.kp hb (fn_den (h1 base X G) F S hc), hB _ _ _ h2, h3.add hx (hP T h3 h2)⟩
theorem St.cls_ {x nm qual : Str} {params : Arguments} {body : List Stmt} {scope : Scope} {f : Addr} {fd : FuncData} {N ps : List Str} {hint : Hint} {n : Nat} {c : CS} {Pm : FS → Prop} (h : St P w K mg B k L) (hB : ∀ T x m, B T → B (T.add x m)) (g : mg x = some (.ref (ga K x))) (hM : Mk K (ga K x) f) (F : FunD K nm qual params body scope [] [] f fd) (S : FnScope N ps scope) (hb : Binds K fd ps [])
    (hc : compSs (compS hint scope N n) body = some c) (hx : fresh x L = true) (hP : ∀ T, All T L → B T → Pm (denC T N ps.length x c)) : St P w K mg B (k + 2) ((x, Pm) :: L) := by
  obtain ⟨T, h1, h2, h3⟩ := h
  exact ⟨T.add x (denC T N ps.length x c), fun base X G => ((h1 base X G).mono (by omega)).addCls g hM hb (cls_den (h1 base X G) F S hc), hB _ _ _ h2, h3.add hx (hP T h3 h2)⟩
theorem St.prop_ {cl x nm qual : Str} {params : Arguments} {body : List Stmt} {scope : Scope} {p f : Addr} {fd : FuncData} {N ps : List Str} {hint : Hint} {n : Nat} {c : CS} {B' : Tab → Prop} (h : St P w K mg B k L) (hC : Cls K (ga K cl)) (hp : PropOf K (ga K cl) x p f) (F : FunD K nm qual params body scope [] [] f fd) (S : FnScope N ps scope) (hb : Binds K fd ps [])
    (hc : compSs (compS hint scope N n) body = some c) (hP : ∀ T, All T L → B T → B' (T.addProp cl x (den T N ps.length c))) : St P w K mg B' (k + 2) L := by
  obtain ⟨T, h1, h2, h3⟩ := h
  exact ⟨T.addProp cl x (den T N ps.length c), fun base X G => ((h1 base X G).mono (by omega)).addProp hC hp hb (fn_den (h1 base X G) F S hc), hP T h3 h2, fun q hq => (h3 q hq).addP⟩
end
/-- a class's i-th statement -/
def clsAt (s : Stmt) (i : Nat) : Stmt := match s with
  | .ClassDef _ _ _ b _ _ _ _ _ _ _ => b.getD i (.Pass ⟨0, 0, 0, 0⟩)
  | _ => .Pass ⟨0, 0, 0, 0⟩
theorem con_flat {d : D} {mg : Str → Option Value} {x : Str} (h1 : isFlat d = true) (h2 : ∃ u, mg x = some u ∧ RelV (vOf d) u) : isFlat d = true ∧ ∃ u, mg x = some u ∧ RelV (vOf d) u := ⟨h1, h2⟩
end Q

set_option Elab.async false
set_option linter.all false
set_option maxRecDepth 100000
set_option maxHeartbeats 1000000
namespace Q
open PySem PySem.Spec PyProof.Rows L2
local macro_rules
  | `(tactic| exists run1) => `(tactic| (first
      | with_reducible refine Ex.seq ?_ | with_reducible refine Ex.set ?_ | with_reducible refine Ex.ret ?_ | with_reducible refine Ex.exp ?_ | with_reducible refine Ex.setOwn ?_ | with_reducible refine Ex.unpack ?_ | with_reducible refine Ex.par ?_ | with_reducible refine Ex.put ?_ | with_reducible refine Ex.app ?_ | with_reducible refine Ex.ext ?_ | with_reducible refine Ex.iff ?_ | with_reducible refine Ex.skip ?_ | with_reducible refine Ex.retN ?_ | with_reducible refine Ex.cont ?_ | with_reducible refine Ex.puts ?_ | with_reducible refine Ex.setA ?_ | with_reducible refine Ex.loop ?_
      | (with_reducible refine Ee.isv ?_; refine Ee.var rfl ?_)
      | with_reducible refine Ee.int ?_ | with_reducible refine Ee.bl ?_ | with_reducible refine Ee.str ?_ | with_reducible refine Ee.non ?_ | with_reducible refine Ee.tup ?_ | with_reducible refine Ee.lst ?_ | with_reducible refine Ee.bin ?_ | with_reducible refine Ee.neg ?_ | with_reducible refine Ee.cmp ?_ | with_reducible refine Ee.chain ?_ | with_reducible refine Ee.and ?_ | with_reducible refine Ee.or ?_ | with_reducible refine Ee.not ?_ | with_reducible refine Ee.ife ?_ | with_reducible refine Ee.sub ?_ | with_reducible refine Ee.slice ?_ | with_reducible refine Ee.rev ?_ | with_reducible refine Ee.sortset ?_ | with_reducible refine Ee.isi ?_ | with_reducible refine Ee.blt ?_ | with_reducible refine Ee.dct ?_ | with_reducible refine Ee.dnewT ?_ | with_reducible refine Ee.dnewK ?_
      | with_reducible refine El.cons ?_ | with_reducible refine El.nil ?_ | with_reducible refine Ep.nil ?_ | with_reducible refine Ep.val ?_ | with_reducible refine Ep.own ?_ | with_reducible refine Eo.no ?_ | with_reducible refine Eo.yes ?_ | with_reducible refine Eb.no ?_ | with_reducible refine Eb.yes ?_
      | with_reducible refine Ei.exv ?_ | with_reducible refine Ei.ex rfl ?_ | with_reducible refine Ei.rng1 ?_ | with_reducible refine Ei.rng2 ?_ | with_reducible refine Ei.enum ?_ | with_reducible refine Ei.zip ?_
      | with_reducible refine Aft.nx ?_ | with_reducible refine Aft.rt ?_ | with_reducible refine Aft.ct ?_ | with_reducible refine Trn.nx ?_ | with_reducible refine Trn.rt ?_ | with_reducible refine Trn.ct ?_ | with_reducible refine Fin.rt ?_ | with_reducible refine Fin.nx ?_
      | with_reducible refine Ts.mk ?_ | with_reducible refine Pt.mk ?_ | with_reducible refine exb ?_ | with_reducible refine exi ?_ | with_reducible refine exii ?_
      | with_reducible refine pr_add ?_ | with_reducible refine pr_sub ?_ | with_reducible refine pr_gt ?_ | with_reducible refine pr_le ?_ | with_reducible refine pr_ge ?_ | with_reducible refine pr_lt ?_ | with_reducible refine pr_lts ?_ | with_reducible refine pr_eqi ?_ | with_reducible refine pr_nei ?_ | with_reducible refine pr_eqs ?_ | with_reducible refine pr_nes ?_ | with_reducible refine pr_eqb ?_ | with_reducible refine pr_in ?_ | with_reducible refine pr_nin ?_
      | with_reducible refine pr_len_l ?_ | with_reducible refine pr_len_t ?_ | with_reducible refine pr_len_r ?_ | with_reducible refine pr_len_k ?_ | with_reducible refine pr_abs ?_ | with_reducible refine pr_max ?_ | with_reducible refine pr_min ?_ | with_reducible refine pr_int ?_ | with_reducible refine pr_intb ?_ | with_reducible refine pr_tup_l ?_ | with_reducible refine pr_list_l ?_ | with_reducible refine pr_list_t ?_ | with_reducible refine pr_sorted ?_ | with_reducible refine pr_repr ?_
      | with_reducible refine pr_items_l ?_ | with_reducible refine pr_items_t ?_ | with_reducible refine pr_keys_l ?_ | with_reducible refine pr_keys_t ?_ | with_reducible refine pr_keys_k ?_ | with_reducible refine pr_keys_kt ?_ | with_reducible refine pr_sl_l ?_ | with_reducible refine pr_sl_t ?_ | with_reducible refine pr_rev ?_ | with_reducible refine pr_bind1 ?_ | with_reducible refine pr_binds1 ?_
      | (with_reducible refine pr_cell (by assumption) ?_ ?_; exact rfl)
      | rw [sF_vals rfl]))
namespace K05
def N__law_comes_home : List Str := ["_law_pot_here", "_law_made_here", "_law_a", "_law_d", "_law_most", "_law_at", "_law_turn", "_law_some"]
def h__law_comes_home : Hint := ⟨[], [], false⟩
def c__law_comes_home : CS := (.seq (.set 5 (.var 2)) (.seq (.loop (.nm 6) (.rng1 (.var 4)) (.seq (.set 7 (.call "nexts" (.cons (.var 1) (.cons (.var 5) (.cons (.var 3) .nil))))) (.set 5 (.ife (.cmp .NotEq (.var 7) (.tup .nil)) (.call "_law_of" (.cons (.var 0) (.cons (.var 7) .nil))) (.var 5))))) (.ret (.cmp .Eq (.var 5) (.var 3)))))
theorem i__law_comes_home (a0 a1 a2 a3 a4 : D) : ini N__law_comes_home [a0, a1, a2, a3, a4] = [.val a0, .val a1, .val a2, .val a3, .val a4, .un, .un, .un] := rfl
def N__law_right : List Str := ["_law_pot_here", "_law_world_here", "_law_made_here", "_law_tables_here", "_law_a", "_law_d"]
def h__law_right : Hint := ⟨[], [], false⟩
def c__law_right : CS := (.seq (.par [2, 3] [false, false] (.cons (.call "_law_made" (.cons (.var 1) .nil)) (.cons (.call "_law_tables_of" (.cons (.var 1) .nil)) .nil))) (.seq (.loop (.nms [4, 5]) (.ex (.blt "list" (.cons (.var 3) .nil))) (.iff (.cmp .NotEq (.blt "repr" (.cons (.call "nexts" (.cons (.var 2) (.cons (.var 4) (.cons (.var 5) .nil)))) .nil)) (.blt "repr" (.cons (.sub (.var 3) (.tup (.cons (.var 4) (.cons (.var 5) .nil)))) .nil))) (.ret (.bl false)) .skip)) (.seq (.par [4, 5] [false, false] (.cons (.call "_law_of" (.cons (.var 0) (.cons (.sub (.var 1) (.int 0)) .nil))) (.cons (.call "_law_of" (.cons (.var 0) (.cons (.sub (.var 1) (.int 0)) .nil))) .nil))) (.ret (.or (.cmp .Eq (.sub (.var 3) (.tup (.cons (.var 4) (.cons (.var 5) .nil)))) (.tup .nil)) (.call "_law_comes_home" (.cons (.var 0) (.cons (.var 2) (.cons (.var 4) (.cons (.var 5) (.cons (.bin .Sub (.blt "len" (.cons (.sub (.var 1) (.int 0)) .nil)) (.int 1)) .nil)))))))))))
theorem i__law_right (a0 a1 : D) : ini N__law_right [a0, a1] = [.val a0, .val a1, .un, .un, .un, .un] := rfl
def N__law_fine : List Str := ["_law_pot_here", "_law_world_here"]
def h__law_fine : Hint := ⟨[], [], false⟩
def c__law_fine : CS := (.seq (.set 1 (.call "_law_world" (.cons (.var 0) (.cons (.int 2) (.cons (.int 8) (.cons (.int 8) .nil)))))) (.ret (.and (.call "_law_right" (.cons (.var 0) (.cons (.var 1) .nil))) (.call "_law_right" (.cons (.var 0) (.cons (.call "_law_near" (.cons (.var 0) (.cons (.var 1) .nil))) .nil))))))
theorem i__law_fine (a0 : D) : ini N__law_fine [a0] = [.val a0, .un] := rfl
theorem countP_le {α : Type} {p q : α → Bool} : ∀ {l : List α}, (∀ x ∈ l, p x = true → q x = true) → l.countP p ≤ l.countP q
  | [], _ => Nat.le_refl _
  | x :: l, h => by
    have ih := countP_le (l := l) fun y hy => h y (List.mem_cons_of_mem _ hy)
    have hx := h x (List.mem_cons_self ..)
    rw [List.countP_cons, List.countP_cons]
    by_cases e : p x = true
    · rw [if_pos e, if_pos (hx e)]; omega
    · rw [if_neg e]; omega
theorem countP_lt {α : Type} {p q : α → Bool} : ∀ {l : List α}, (∀ x ∈ l, p x = true → q x = true) → ∀ {a : α}, a ∈ l → ¬ (p a = true) → q a = true → l.countP p < l.countP q
  | x :: l, h, a, ha, np, hq => by
    have hle := countP_le (l := l) fun y hy => h y (List.mem_cons_of_mem _ hy)
    have hx := h x (List.mem_cons_self ..)
    rw [List.countP_cons, List.countP_cons]
    rcases List.mem_cons.mp ha with e | e
    · subst e
      rw [if_neg np, if_pos hq]; omega
    · have ih := countP_lt (l := l) (fun y hy => h y (List.mem_cons_of_mem _ hy)) e np hq
      by_cases e : p x = true
      · rw [if_pos e, if_pos (hx e)]; omega
      · rw [if_neg e]; omega
/-- routers nearer to the goal than v -/
def nearer (rs : List Str) (f : Dst) (v : Int) : Nat := rs.countP fun r => match aget f r with | some u => decide (u < v) | none => false
theorem nearer_lt {rs : List Str} {f : Dst} {v u : Int} {n : Str} (hn : n ∈ rs) (h : aget f n = some u) (hu : u < v) : nearer rs f u < nearer rs f v := by
  unfold nearer
  refine countP_lt (fun r _ hr => ?_) hn ?_ ?_
  · cases hg : aget f r with
    | none => rw [hg] at hr; exact hr
    | some z =>
      rw [hg] at hr
      have hr : decide (z < u) = true := hr
      rw [decide_eq_true_eq] at hr
      show decide (z < v) = true
      rw [decide_eq_true_eq]
      omega
  · rw [h]
    show ¬ (decide (u < u) = true)
    rw [decide_eq_true_eq]
    omega
  · rw [h]
    show decide (u < v) = true
    rw [decide_eq_true_eq]; exact hu
theorem nearer_le {rs : List Str} {f : Dst} {v : Int} {n : Str} (hn : n ∈ rs) (h : aget f n = some v) : nearer rs f v ≤ rs.length - 1 := by
  have h1 : nearer rs f v < rs.countP fun _ => true := by
    unfold nearer
    refine countP_lt (fun r _ _ => rfl) hn ?_ rfl
    rw [h]
    show ¬ (decide (v < v) = true)
    rw [decide_eq_true_eq]
    omega
  rw [List.countP_true] at h1
  omega
theorem nxP_some {ll : Lens} {f : Dst} {r n : Str} (h : nxP ll f r n = true) : ∃ w dn, aget ll (r, n) = some w ∧ aget f n = some dn ∧ aget f r = some (w + dn) := by
  unfold nxP at h
  split at h
  · rename_i w dn dr e1 e2 e3
    refine ⟨w, dn, e1, e2, ?_⟩
    rw [e3, beq_iff_eq.mp h]
  · cases h
theorem nx_ne {B : Int} {rs : List Str} {ls : List Lk} (w : IsW B rs ls) {a d : Str} {f : Dst} {v : Int} (hd : d ∈ rs) (hf : Dis (lensOf ls) d f) (ha : aget f a = some v) (hne : a ≠ d) : nx rs ls a d ≠ [] := by
  obtain ⟨r, hp⟩ := hf.snd a v ha
  rw [nx_dis w hd hf, if_neg hne]
  cases hp with
  | nil => exact absurd rfl hne
  | cons hm hp' =>
    rename_i b r' wt v'
    obtain ⟨u, hu1, hu2⟩ := hf.all b r' v' hp'
    obtain ⟨u2, hv1, hv2⟩ := hf.edge hm hu1
    have e2 : wt + v' = u2 := by rw [ha] at hv1; exact Option.some.inj hv1
    have hbr := (lens_in w _ hm).2
    have hkeys := lens_keys w
    have hg : aget (lensOf ls) (a, b) = some wt := aget_of hkeys hm
    intro h
    rw [List.filter_eq_nil_iff] at h
    refine h b hbr ?_
    unfold nxP
    rw [hg, hu1, ha]
    show (wt + u == wt + v') = true
    rw [beq_iff_eq]
    omega
theorem nx_mem {B : Int} {rs : List Str} {ls : List Lk} (w : IsW B rs ls) {a d n : Str} {f : Dst} (hd : d ∈ rs) (hf : Dis (lensOf ls) d f) (h : n ∈ nx rs ls a d) : n ∈ rs ∧ ∃ u v, aget f n = some u ∧ aget f a = some v ∧ u < v := by
  rw [nx_dis w hd hf] at h
  by_cases e : a = d
  · rw [if_pos e] at h; cases h
  · rw [if_neg e, List.mem_filter] at h
    obtain ⟨wt, dn, h1, h2, h3⟩ := nxP_some h.2
    have := lens_pos w _ (aget_mem h1)
    exact ⟨h.1, dn, _, h2, h3, by simp only at this; omega⟩
theorem nx_self {B : Int} {rs : List Str} {ls : List Lk} (w : IsW B rs ls) {d : Str} (hd : d ∈ rs) : nx rs ls d d = [] := by
  rw [nx_dis w hd (dis_prog w hd), if_pos rfl]
theorem nx_sub {B : Int} {rs : List Str} {ls : List Lk} (w : IsW B rs ls) {a d : Str} (hd : d ∈ rs) : ∀ n ∈ nx rs ls a d, n ∈ rs := fun n hn => (nx_mem w hd (dis_prog w hd) hn).1
theorem nx_len {B : Int} {rs : List Str} {ls : List Lk} (w : IsW B rs ls) {a d : Str} (hd : d ∈ rs) : (nx rs ls a d).length ≤ 8 := by
  rw [nx_dis w hd (dis_prog w hd)]
  split
  · exact Nat.zero_le _
  · exact Nat.le_trans (List.length_filter_le _ _) w.eight
theorem rs_pl {ss : List Str} (h : ∀ s ∈ ss, IsName s) : plD (rsD ss) = true := pl_strs h
def P_home (m : FS) : Prop := ∀ (st : Store) (c b : Nat) (B : Int) (rs : List Str) (ls : List Lk) (a d : Str) (Q : D → Store → Prop), PotAt st c b → b + 10 < LIM → IsW B rs ls → a ∈ rs → d ∈ rs → nx rs ls a d ≠ [] → (∀ st', Nxt c (b + 10) st st' → Q (.bl true) st') → Cl m [.cell c, netD rs ls, .str a, .str d, .int ((rs.length : Int) - 1)] st Q
set_option maxHeartbeats 4000000 in
theorem home_ok {T : Tab} (h1 : Has T "nexts" P_nexts) (h2 : Has T "_law_of" P_of) : P_home (den T N__law_comes_home 5 c__law_comes_home) := by
  intro st c b B rs ls a d Q hp hb w ha hd hne k
  have hlim : b + 10 < 2 ^ 60 := hb
  have h8 := w.eight
  have h2' := w.two
  have hf := dis_prog w hd
  generalize distOf rs.length (lensOf ls) d = f at hf
  refine Cl.den rfl (i__law_comes_home _ _ _ _ _) ?_
  unfold c__law_comes_home
  (repeat (exists run1))
  refine pr_rng ⟨by decide, by decide, by omega, by omega, by rw [sizeLine_eq]; omega⟩ ?_
  refine Lp.inv (fun i e s => ∃ (s6 s7 : Sl) (at_ : Str), e = [.val (.cell c), .val (netD rs ls), .val (.str a), .val (.str d), .val (.int ((rs.length : Int) - 1)), .val (.str at_), s6, s7] ∧ at_ ∈ rs ∧ (at_ = d ∨ ∃ v, aget f at_ = some v ∧ nearer rs f v + i ≤ rs.length - 1) ∧ Nxt c (b + i) st s) ?_ ?_ ?_
  · refine ⟨.un, .un, a, rfl, ha, .inr ?_, Nxt.refl hp⟩
    obtain ⟨n, hn⟩ := List.exists_mem_of_ne_nil _ hne
    obtain ⟨_, u, v, _, hv, _⟩ := nx_mem w hd hf hn
    exact ⟨v, hv, nearer_le ha hv⟩
  · rintro i x e s hx ⟨s6, s7, at_, rfl, hat, hor, hns⟩
    rw [List.getElem?_map] at hx
    obtain ⟨q, hq, rfl⟩ := Option.map_eq_some_iff.mp hx
    have hi : i < 8 := by
      have := (List.getElem?_eq_some_iff.mp hq).1
      rw [List.length_range] at this
      omega
    (repeat (exists run1))
    refine Ee.callH h1 fun m1 hm1 => ?_
    (repeat (exists run1))
    refine hm1 _ B rs ls at_ d _ w hat hd ?_
    (repeat (exists run1))
    have hnm : ∀ n ∈ nx rs ls at_ d, IsName n := fun n hn => w.names n (nx_sub w hd n hn)
    refine pr_nepl (rs_pl hnm) rfl (rs_dp _) (by show 1 ≤ 60; decide) fun z hz => ?_
    (repeat (exists run1))
    refine ⟨fun g => ?_, fun g => ?_⟩
    · have hne2 : (nx rs ls at_ d).map D.str ≠ [] := fun h => by
        have := hz.mpr (by unfold rsD; rw [h])
        rw [g] at this
        cases this
      refine Ee.callH h2 fun m2 hm2 => ?_
      (repeat (exists run1))
      refine hm2.tup _ _ (b + i) _ _ hns.pot (by show _ < 2 ^ 60; omega) hne2 (by rw [List.length_map]; have := nx_len w (a := at_) hd; omega) fun y hy s2 hn2 => ?_
      obtain ⟨n, hn, rfl⟩ := List.mem_map.mp hy
      (repeat (exists run1))
      obtain ⟨hnr, u, v, hu, hv, huv⟩ := nx_mem w hd hf hn
      refine ⟨_, _, n, rfl, hnr, .inr ⟨u, hu, ?_⟩, hns.trans hn2⟩
      rcases hor with rfl | ⟨v', hv', hle⟩
      · rw [nx_self w hd] at hn; cases hn
      · rw [hv] at hv'
        cases hv'
        have := nearer_lt hnr hu huv
        omega
    · (repeat (exists run1))
      refine ⟨_, _, at_, rfl, hat, .inl ?_, hns.mono (by omega)⟩
      have he := hz.mp g
      unfold rsD at he
      injection he with he
      rcases hor with h | ⟨v', hv', _⟩
      · exact h
      · by_cases e : at_ = d
        · exact e
        · have := nx_ne w hd hf hv' e
          exact absurd (List.map_eq_nil_iff.mp he) this
  · rintro e s ⟨s6, s7, at_, rfl, hat, hor, hns⟩
    rw [List.length_map, List.length_range] at hor hns
    have he : at_ = d := by
      rcases hor with h | ⟨v, hv, hle⟩
      · exact h
      · by_cases e : at_ = d
        · exact e
        · exfalso
          have h0 := hf.zero (lens_pos w)
          have h1 := hf.pos (lens_pos w) hv e
          have := nearer_lt (rs := rs) hd h0 (show (0 : Int) < v by omega)
          omega
    subst he
    (repeat (exists run1))
    rw [beq_self_eq_true]
    exact k s (hns.mono (by omega))
def P_right (m : FS) : Prop := ∀ (st : Store) (c b : Nat) (B : Int) (rs : List Str) (ls : List Lk) (Q : D → Store → Prop), PotAt st c b → b + 12 < LIM → IsW B rs ls → (∀ st', Nxt c (b + 12) st st' → Q (.bl true) st') → Cl m [.cell c, worldD rs ls] st Q
set_option maxHeartbeats 4000000 in
theorem right_ok {T : Tab} (h1 : Has T "_law_made" P_made) (h2 : Has T "_law_tables_of" P_ltabof) (h3 : Has T "nexts" P_nexts) (h4 : Has T "_law_of" P_of) (h5 : Has T "_law_comes_home" P_home) : P_right (den T N__law_right 2 c__law_right) := by
  intro st c b B rs ls Q hp hb w k
  have hlim : b + 12 < 2 ^ 60 := hb
  have h8 := w.eight
  have hrne : rs.map D.str ≠ [] := fun h => by
    have := w.two
    rw [List.map_eq_nil_iff.mp h] at this
    simp at this
  refine Cl.den rfl (i__law_right _ _) ?_
  unfold c__law_right
  (repeat (exists run1))
  refine Ee.callH h1 fun m1 hm1 => ?_
  (repeat (exists run1))
  refine hm1 _ B rs ls _ w ?_
  (repeat (exists run1))
  refine Ee.callH h2 fun m2 hm2 => ?_
  (repeat (exists run1))
  refine hm2 _ B rs ls _ w ?_
  (repeat (exists run1))
  refine ⟨rfl, ?_⟩
  unfold tD
  (repeat (first | exists run1 | refine pr_listP ?_))
  refine Lp.inv (fun i e s => ∃ s4 s5, e = [.val (.cell c), .val (worldD rs ls), .val (netD rs ls), .val (tD (tb rs ls)), s4, s5] ∧ s = st) ⟨.un, .un, rfl, rfl⟩ ?_ ?_
  · rintro i x e s hx ⟨s4, s5, rfl, rfl⟩
    rw [List.getElem?_map] at hx
    obtain ⟨q, hq, rfl⟩ := Option.map_eq_some_iff.mp hx
    have hqm : q.1 ∈ (tb rs ls).map (·.1) := List.mem_map.mpr ⟨q, List.mem_of_getElem? hq, rfl⟩
    obtain ⟨ha, hd⟩ := mem_tabs.mp hqm
    generalize q.1 = p at ha hd
    obtain ⟨a, d⟩ := p
    refine pr_bindsn rfl ?_
    (repeat (exists run1))
    refine Ee.callH h3 fun m3 hm3 => ?_
    (repeat (exists run1))
    refine hm3 _ B rs ls a d _ w ha hd ?_
    (repeat (exists run1))
    have hnm : ∀ n ∈ nx rs ls a d, IsName n := fun n hn => w.names n (nx_sub w hd n hn)
    refine pr_reprs (rs_rp hnm) (by have := rs_wt hnm; have := nx_len w (a := a) (d := d) hd; omega) (rs_dp _) fun t ht => ?_
    unfold tD
    (repeat (first | exists run1 | refine pr_subP (get_tabs ha hd) ?_))
    refine Pr.of ht ?_
    (repeat (exists run1))
    rw [beq_self_eq_true]
    refine ⟨fun h => (by cases h), fun _ => ?_⟩
    (repeat (exists run1))
    exact ⟨_, _, rfl, rfl⟩
  · rintro e s ⟨s4, s5, rfl, rfl⟩
    (repeat (exists run1))
    refine Ee.callH h4 fun m4 hm4 => ?_
    unfold worldD rsD
    (repeat (first | exists run1 | refine pr_subt rfl ?_))
    refine hm4.tup _ _ b _ _ hp (by show _ < 2 ^ 60; omega) hrne (by rw [List.length_map]; omega) fun y hy s1 hn1 => ?_
    obtain ⟨a, ha, rfl⟩ := List.mem_map.mp hy
    (repeat (exists run1))
    refine Ee.callH h4 fun m5 hm5 => ?_
    (repeat (first | exists run1 | refine pr_subt rfl ?_))
    refine hm5.tup _ _ (b + 1) _ _ hn1.pot (by show _ < 2 ^ 60; omega) hrne (by rw [List.length_map]; omega) fun y hy s2 hn2 => ?_
    obtain ⟨d, hd, rfl⟩ := List.mem_map.mp hy
    (repeat (exists run1))
    refine ⟨rfl, ?_⟩
    have hN := hn1.trans hn2
    unfold tD
    (repeat (first | exists run1 | refine pr_subP (get_tabs ha hd) ?_))
    have hnm : ∀ n ∈ nx rs ls a d, IsName n := fun n hn => w.names n (nx_sub w hd n hn)
    refine pr_eqpl (rs_pl hnm) rfl (rs_dp _) (by show 1 ≤ 60; decide) fun z hz => ?_
    (repeat (exists run1))
    refine ⟨fun g => ?_, fun g => ?_⟩
    · refine Ee.callH h5 fun m6 hm6 => ?_
      (repeat (first | exists run1 | refine pr_subt rfl ?_))
      rw [List.length_map]
      refine hm6 _ _ (b + 1 + 1) B rs ls a d _ hN.pot (by show _ < 2 ^ 60; omega) w ha hd (fun h => ?_) fun s3 hn3 => ?_
      · have := hz.mpr (by unfold rsD; rw [h]; rfl)
        rw [g] at this
        cases this
      · (repeat (exists run1))
        exact k _ (hN.trans (hn3.mono (by omega)))
    · (repeat (exists run1))
      exact k _ (hN.mono (by omega))
theorem fine_ok {T : Tab} (h1 : Has T "_law_world" P_world) (h2 : Has T "_law_right" P_right) (h3 : Has T "_law_near" P_near) : P_fine (den T N__law_fine 1 c__law_fine) := by
  intro st c Q hp k
  refine Cl.den rfl (i__law_fine _) ?_
  unfold c__law_fine
  (repeat (exists run1))
  refine Ee.callH h1 fun m1 hm1 => ?_
  (repeat (exists run1))
  refine hm1 _ c 0 2 8 8 _ hp (by decide) (by decide) (by decide) (by decide) (by decide) fun rs ls s1 w _ _ hn1 => ?_
  (repeat (exists run1))
  refine Ee.callH h2 fun m2 hm2 => ?_
  (repeat (exists run1))
  refine hm2 _ c _ _ rs ls _ hn1.pot (by decide) w fun s2 hn2 => ?_
  (repeat (exists run1))
  refine ⟨fun _ => ?_, fun h => (by cases h)⟩
  (repeat (exists run1))
  refine Ee.callH h2 fun m3 hm3 => ?_
  (repeat (exists run1))
  refine Ee.callH h3 fun m4 hm4 => ?_
  (repeat (exists run1))
  refine hm4 _ c _ 90 rs ls _ hn2.pot (by decide) (by decide) w fun ls' s3 w' hn3 => ?_
  (repeat (exists run1))
  refine hm3 _ c _ _ rs ls' _ hn3.pot (by decide) w' fun s4 hn4 => ?_
  (repeat (exists run1))
  exact k _ _ (((hn1.trans hn2).trans hn3).trans hn4)
end K05
end Q

set_option Elab.async false
set_option linter.all false
set_option maxRecDepth 100000
set_option maxHeartbeats 1000000
namespace Q
open PySem PySem.Spec PyProof.Rows L2
local macro_rules
  | `(tactic| exists run1) => `(tactic| (first
      | with_reducible refine Ex.seq ?_ | with_reducible refine Ex.set ?_ | with_reducible refine Ex.ret ?_ | with_reducible refine Ex.exp ?_ | with_reducible refine Ex.setOwn ?_ | with_reducible refine Ex.unpack ?_ | with_reducible refine Ex.par ?_ | with_reducible refine Ex.put ?_ | with_reducible refine Ex.app ?_ | with_reducible refine Ex.ext ?_ | with_reducible refine Ex.iff ?_ | with_reducible refine Ex.skip ?_ | with_reducible refine Ex.retN ?_ | with_reducible refine Ex.cont ?_ | with_reducible refine Ex.puts ?_ | with_reducible refine Ex.setA ?_ | with_reducible refine Ex.loop ?_
      | (with_reducible refine Ee.isv ?_; refine Ee.var rfl ?_)
      | with_reducible refine Ee.int ?_ | with_reducible refine Ee.bl ?_ | with_reducible refine Ee.str ?_ | with_reducible refine Ee.non ?_ | with_reducible refine Ee.tup ?_ | with_reducible refine Ee.lst ?_ | with_reducible refine Ee.bin ?_ | with_reducible refine Ee.neg ?_ | with_reducible refine Ee.cmp ?_ | with_reducible refine Ee.chain ?_ | with_reducible refine Ee.and ?_ | with_reducible refine Ee.or ?_ | with_reducible refine Ee.not ?_ | with_reducible refine Ee.ife ?_ | with_reducible refine Ee.sub ?_ | with_reducible refine Ee.slice ?_ | with_reducible refine Ee.rev ?_ | with_reducible refine Ee.sortset ?_ | with_reducible refine Ee.isi ?_ | with_reducible refine Ee.blt ?_ | with_reducible refine Ee.dct ?_ | with_reducible refine Ee.dnewT ?_ | with_reducible refine Ee.dnewK ?_
      | with_reducible refine El.cons ?_ | with_reducible refine El.nil ?_ | with_reducible refine Ep.nil ?_ | with_reducible refine Ep.val ?_ | with_reducible refine Ep.own ?_ | with_reducible refine Eo.no ?_ | with_reducible refine Eo.yes ?_ | with_reducible refine Eb.no ?_ | with_reducible refine Eb.yes ?_
      | with_reducible refine Ei.exv ?_ | with_reducible refine Ei.ex rfl ?_ | with_reducible refine Ei.rng1 ?_ | with_reducible refine Ei.rng2 ?_ | with_reducible refine Ei.enum ?_ | with_reducible refine Ei.zip ?_
      | with_reducible refine Aft.nx ?_ | with_reducible refine Aft.rt ?_ | with_reducible refine Aft.ct ?_ | with_reducible refine Trn.nx ?_ | with_reducible refine Trn.rt ?_ | with_reducible refine Trn.ct ?_ | with_reducible refine Fin.rt ?_ | with_reducible refine Fin.nx ?_
      | with_reducible refine Ts.mk ?_ | with_reducible refine Pt.mk ?_ | with_reducible refine exb ?_ | with_reducible refine exi ?_ | with_reducible refine exii ?_
      | with_reducible refine pr_add ?_ | with_reducible refine pr_sub ?_ | with_reducible refine pr_gt ?_ | with_reducible refine pr_le ?_ | with_reducible refine pr_ge ?_ | with_reducible refine pr_lt ?_ | with_reducible refine pr_lts ?_ | with_reducible refine pr_eqi ?_ | with_reducible refine pr_nei ?_ | with_reducible refine pr_eqs ?_ | with_reducible refine pr_nes ?_ | with_reducible refine pr_eqb ?_ | with_reducible refine pr_in ?_ | with_reducible refine pr_nin ?_
      | with_reducible refine pr_len_l ?_ | with_reducible refine pr_len_t ?_ | with_reducible refine pr_len_r ?_ | with_reducible refine pr_len_k ?_ | with_reducible refine pr_abs ?_ | with_reducible refine pr_max ?_ | with_reducible refine pr_min ?_ | with_reducible refine pr_int ?_ | with_reducible refine pr_intb ?_ | with_reducible refine pr_tup_l ?_ | with_reducible refine pr_list_l ?_ | with_reducible refine pr_list_t ?_ | with_reducible refine pr_sorted ?_ | with_reducible refine pr_repr ?_
      | with_reducible refine pr_items_l ?_ | with_reducible refine pr_items_t ?_ | with_reducible refine pr_keys_l ?_ | with_reducible refine pr_keys_t ?_ | with_reducible refine pr_keys_k ?_ | with_reducible refine pr_keys_kt ?_ | with_reducible refine pr_sl_l ?_ | with_reducible refine pr_sl_t ?_ | with_reducible refine pr_rev ?_ | with_reducible refine pr_bind1 ?_ | with_reducible refine pr_binds1 ?_
      | (with_reducible refine pr_cell (by assumption) ?_ ?_; exact rfl)
      | rw [sF_vals rfl]))
/-! ### all rows of routers without a repetition, and the least among their sums -/
def stp (ll : Lens) (x b : Str) : Int := (aget ll (x, b)).getD 0
def kids (ll : Lens) (rs pre : List Str) (x : Str) : List Str := rs.filter fun b => !decide (b ∈ pre ++ [x]) && (aget ll (x, b)).isSome
def sums (ll : Lens) (rs : List Str) (d : Str) : Nat → List Str → Str → Int → List Int
  | 0, _, _, _ => []
  | n + 1, pre, x, t => if x = d then [t] else (kids ll rs pre x).flatMap fun b => sums ll rs d n (pre ++ [x]) b (t + stp ll x b)
def size (ll : Lens) (rs : List Str) (d : Str) : Nat → List Str → Str → Nat
  | 0, _, _ => 1
  | n + 1, pre, x => if x = d then 1 else 1 + ((kids ll rs pre x).map fun b => size ll rs d n (pre ++ [x]) b).sum
section
variable {B : Int} {rs : List Str} {ls : List Lk} {d : Str} {f : Dst}
theorem sums_ge (w : IsW B rs ls) (hf : Dis (lensOf ls) d f) : ∀ (n : Nat) (pre : List Str) (x : Str) (t z : Int), z ∈ sums (lensOf ls) rs d n pre x t → ∃ v, aget f x = some v ∧ t + v ≤ z
  | 0, _, _, _, _, h => by cases h
  | n + 1, pre, x, t, z, h => by
    unfold sums at h
    by_cases e : x = d
    · rw [if_pos e] at h
      have : z = t := by simpa using h
      subst this e
      exact ⟨0, hf.zero (lens_pos w), by omega⟩
    · rw [if_neg e] at h
      obtain ⟨b, hb, hz⟩ := List.mem_flatMap.mp h
      obtain ⟨vb, h1, h2⟩ := sums_ge w hf n _ b _ z hz
      unfold kids at hb
      rw [List.mem_filter, Bool.and_eq_true] at hb
      obtain ⟨wt, hw⟩ := Option.isSome_iff_exists.mp hb.2.2
      obtain ⟨u, hu1, hu2⟩ := hf.edge (aget_mem hw) h1
      have : stp (lensOf ls) x b = wt := by unfold stp; rw [hw]; rfl
      exact ⟨u, hu1, by omega⟩
def wayN (N : Str → List Str) (d : Str) : Nat → Str → Nat
  | 0, _ => 0
  | n + 1, x => if x = d then 1 else ((N x).map (wayN N d n)).sum
theorem sum_congr {α : Type} {g h : α → Nat} : ∀ {l : List α}, (∀ x ∈ l, g x = h x) → (l.map g).sum = (l.map h).sum
  | [], _ => rfl
  | x :: l, e => by
    rw [List.map_cons, List.map_cons, List.sum_cons, List.sum_cons, e x (List.mem_cons_self ..), sum_congr fun y hy => e y (List.mem_cons_of_mem _ hy)]
theorem wayN_still (w : IsW B rs ls) (hd : d ∈ rs) (hf : Dis (lensOf ls) d f) : ∀ (n m : Nat) (x : Str) (v : Int), aget f x = some v → K05.nearer rs f v < n → K05.nearer rs f v < m → wayN (fun a => nx rs ls a d) d n x = wayN (fun a => nx rs ls a d) d m x
  | 0, _, _, _, _, h, _ => by omega
  | _ + 1, 0, _, _, _, _, h => by omega
  | n + 1, m + 1, x, v, hv, h1, h2 => by
    unfold wayN
    by_cases e : x = d
    · rw [if_pos e, if_pos e]
    · rw [if_neg e, if_neg e]
      refine sum_congr fun b hb => ?_
      obtain ⟨hbr, u, v', hu, hv', huv⟩ := K05.nx_mem w hd hf hb
      rw [hv] at hv'
      cases hv'
      have := K05.nearer_lt hbr hu huv
      exact wayN_still w hd hf n m b u hu (by omega) (by omega)
theorem count_flat {α : Type} (z : Int) (g : α → List Int) : ∀ l : List α, (l.flatMap g).count z = (l.map fun b => (g b).count z).sum
  | [] => rfl
  | x :: l => by rw [List.flatMap_cons, List.count_append, List.map_cons, List.sum_cons, count_flat z g l]
theorem sum_filter {α : Type} (p q : α → Bool) (g : α → Nat) (h : ∀ x, q x = true → p x = true) : ∀ l : List α, ((l.filter p).map fun x => if q x = true then g x else 0).sum = ((l.filter q).map g).sum
  | [] => rfl
  | x :: l => by
    have ih := sum_filter p q g h l
    by_cases hq : q x = true
    · rw [List.filter_cons_of_pos (h x hq), List.filter_cons_of_pos hq, List.map_cons, List.map_cons, List.sum_cons, List.sum_cons, if_pos hq, ih]
    · rw [List.filter_cons_of_neg hq]
      by_cases hp : p x = true
      · rw [List.filter_cons_of_pos hp, List.map_cons, List.sum_cons, if_neg hq, ih, Nat.zero_add]
      · rw [List.filter_cons_of_neg hp, ih]
/-- the least sum is met once for each least way -/
theorem sums_count (w : IsW B rs ls) (hd : d ∈ rs) (hf : Dis (lensOf ls) d f) : ∀ (n : Nat) (pre : List Str) (x : Str) (t v : Int), aget f x = some v → (∀ y ∈ pre, ∀ u, aget f y = some u → v < u) → K05.nearer rs f v < n →
    (sums (lensOf ls) rs d n pre x t).count (t + v) = wayN (fun a => nx rs ls a d) d n x
  | 0, _, _, _, _, _, _, h => by omega
  | n + 1, pre, x, t, v, hv, hpre, hn => by
    unfold sums wayN
    by_cases e : x = d
    · subst e
      rw [if_pos rfl, if_pos rfl]
      have := hf.zero (lens_pos w)
      rw [hv] at this
      cases this
      rw [Int.add_zero, List.count_singleton_self]
    · rw [if_neg e, if_neg e, count_flat]
      have hnx : nx rs ls x d = rs.filter (nxP (lensOf ls) f x) := by rw [nx_dis w hd hf, if_neg e]
      rw [hnx]
      unfold kids
      have hkid : ∀ b, nxP (lensOf ls) f x b = true → (!decide (b ∈ pre ++ [x]) && (aget (lensOf ls) (x, b)).isSome) = true := fun b hb => by
        obtain ⟨wt, dn, h1, h2, h3⟩ := K05.nxP_some hb
        have hpos := lens_pos w _ (aget_mem h1)
        simp only at hpos
        rw [hv] at h3
        cases h3
        rw [h1, Bool.and_eq_true, Bool.not_eq_true', decide_eq_false_iff_not]
        refine ⟨fun hm => ?_, rfl⟩
        rcases List.mem_append.mp hm with q | q
        · have := hpre b q dn h2
          omega
        · have : b = x := by simpa using q
          subst this
          rw [hv] at h2
          have := Option.some.inj h2
          omega
      rw [← sum_filter (fun b => !decide (b ∈ pre ++ [x]) && (aget (lensOf ls) (x, b)).isSome) (nxP (lensOf ls) f x) (wayN (fun a => nx rs ls a d) d n) hkid]
      refine sum_congr fun b hb => ?_
      rw [List.mem_filter, Bool.and_eq_true] at hb
      obtain ⟨wt, hw⟩ := Option.isSome_iff_exists.mp hb.2.2
      have hs : stp (lensOf ls) x b = wt := by unfold stp; rw [hw]; rfl
      rw [hs]
      by_cases hp : nxP (lensOf ls) f x b = true
      · rw [if_pos hp]
        obtain ⟨wt', dn, h1, h2, h3⟩ := K05.nxP_some hp
        rw [hw] at h1
        cases h1
        rw [hv] at h3
        have h3 := Option.some.inj h3
        have hpos := lens_pos w _ (aget_mem hw)
        simp only at hpos
        have e2 : t + v = t + wt + dn := by omega
        rw [e2]
        have hlt := K05.nearer_lt hb.1 h2 (show dn < v by omega)
        refine sums_count w hd hf n (pre ++ [x]) b (t + wt) dn h2 (fun y hy u hu => ?_) (by omega)
        rcases List.mem_append.mp hy with q | q
        · have := hpre y q u hu
          omega
        · have : y = x := by simpa using q
          subst this
          rw [hv] at hu
          have := Option.some.inj hu
          omega
      · rw [if_neg hp, List.count_eq_zero]
        intro hz
        obtain ⟨vb, h1, h2⟩ := sums_ge w hf n _ b _ _ hz
        obtain ⟨u, hu1, hu2⟩ := hf.edge (aget_mem hw) h1
        rw [hv] at hu1
        have hu1 := Option.some.inj hu1
        apply hp
        unfold nxP
        rw [hw, h1, hv]
        show (wt + vb == v) = true
        rw [beq_iff_eq]
        omega
end
end Q

set_option Elab.async false
set_option linter.all false
set_option maxRecDepth 100000
set_option maxHeartbeats 1000000
namespace Q
open PySem PySem.Spec PyProof.Rows L2
local macro_rules
  | `(tactic| exists run1) => `(tactic| (first
      | with_reducible refine Ex.seq ?_ | with_reducible refine Ex.set ?_ | with_reducible refine Ex.ret ?_ | with_reducible refine Ex.exp ?_ | with_reducible refine Ex.setOwn ?_ | with_reducible refine Ex.unpack ?_ | with_reducible refine Ex.par ?_ | with_reducible refine Ex.put ?_ | with_reducible refine Ex.app ?_ | with_reducible refine Ex.ext ?_ | with_reducible refine Ex.iff ?_ | with_reducible refine Ex.skip ?_ | with_reducible refine Ex.retN ?_ | with_reducible refine Ex.cont ?_ | with_reducible refine Ex.puts ?_ | with_reducible refine Ex.setA ?_ | with_reducible refine Ex.loop ?_
      | (with_reducible refine Ee.isv ?_; refine Ee.var rfl ?_)
      | with_reducible refine Ee.int ?_ | with_reducible refine Ee.bl ?_ | with_reducible refine Ee.str ?_ | with_reducible refine Ee.non ?_ | with_reducible refine Ee.tup ?_ | with_reducible refine Ee.lst ?_ | with_reducible refine Ee.bin ?_ | with_reducible refine Ee.neg ?_ | with_reducible refine Ee.cmp ?_ | with_reducible refine Ee.chain ?_ | with_reducible refine Ee.and ?_ | with_reducible refine Ee.or ?_ | with_reducible refine Ee.not ?_ | with_reducible refine Ee.ife ?_ | with_reducible refine Ee.sub ?_ | with_reducible refine Ee.slice ?_ | with_reducible refine Ee.rev ?_ | with_reducible refine Ee.sortset ?_ | with_reducible refine Ee.isi ?_ | with_reducible refine Ee.blt ?_ | with_reducible refine Ee.dct ?_ | with_reducible refine Ee.dnewT ?_ | with_reducible refine Ee.dnewK ?_
      | with_reducible refine El.cons ?_ | with_reducible refine El.nil ?_ | with_reducible refine Ep.nil ?_ | with_reducible refine Ep.val ?_ | with_reducible refine Ep.own ?_ | with_reducible refine Eo.no ?_ | with_reducible refine Eo.yes ?_ | with_reducible refine Eb.no ?_ | with_reducible refine Eb.yes ?_
      | with_reducible refine Ei.exv ?_ | with_reducible refine Ei.ex rfl ?_ | with_reducible refine Ei.rng1 ?_ | with_reducible refine Ei.rng2 ?_ | with_reducible refine Ei.enum ?_ | with_reducible refine Ei.zip ?_
      | with_reducible refine Aft.nx ?_ | with_reducible refine Aft.rt ?_ | with_reducible refine Aft.ct ?_ | with_reducible refine Trn.nx ?_ | with_reducible refine Trn.rt ?_ | with_reducible refine Trn.ct ?_ | with_reducible refine Fin.rt ?_ | with_reducible refine Fin.nx ?_
      | with_reducible refine Ts.mk ?_ | with_reducible refine Pt.mk ?_ | with_reducible refine exb ?_ | with_reducible refine exi ?_ | with_reducible refine exii ?_
      | with_reducible refine pr_add ?_ | with_reducible refine pr_sub ?_ | with_reducible refine pr_gt ?_ | with_reducible refine pr_le ?_ | with_reducible refine pr_ge ?_ | with_reducible refine pr_lt ?_ | with_reducible refine pr_lts ?_ | with_reducible refine pr_eqi ?_ | with_reducible refine pr_nei ?_ | with_reducible refine pr_eqs ?_ | with_reducible refine pr_nes ?_ | with_reducible refine pr_eqb ?_ | with_reducible refine pr_in ?_ | with_reducible refine pr_nin ?_
      | with_reducible refine pr_len_l ?_ | with_reducible refine pr_len_t ?_ | with_reducible refine pr_len_r ?_ | with_reducible refine pr_len_k ?_ | with_reducible refine pr_abs ?_ | with_reducible refine pr_max ?_ | with_reducible refine pr_min ?_ | with_reducible refine pr_int ?_ | with_reducible refine pr_intb ?_ | with_reducible refine pr_tup_l ?_ | with_reducible refine pr_list_l ?_ | with_reducible refine pr_list_t ?_ | with_reducible refine pr_sorted ?_ | with_reducible refine pr_repr ?_
      | with_reducible refine pr_items_l ?_ | with_reducible refine pr_items_t ?_ | with_reducible refine pr_keys_l ?_ | with_reducible refine pr_keys_t ?_ | with_reducible refine pr_keys_k ?_ | with_reducible refine pr_keys_kt ?_ | with_reducible refine pr_sl_l ?_ | with_reducible refine pr_sl_t ?_ | with_reducible refine pr_rev ?_ | with_reducible refine pr_bind1 ?_ | with_reducible refine pr_binds1 ?_
      | (with_reducible refine pr_cell (by assumption) ?_ ?_; exact rfl)
      | rw [sF_vals rfl]))
theorem size_le {ll : Lens} {rs : List Str} {d : Str} (h6 : rs.length ≤ 6) : ∀ (n : Nat) (pre : List Str) (x : Str), size ll rs d n pre x ≤ 7 ^ n
  | 0, _, _ => Nat.le_refl 1
  | n + 1, pre, x => by
    unfold size
    have h7 : 1 ≤ 7 ^ n := Nat.pow_pos (by decide)
    split
    · rw [Nat.pow_succ]; omega
    · have hs : ∀ l : List Str, (l.map fun b => size ll rs d n (pre ++ [x]) b).sum ≤ l.length * 7 ^ n := fun l => by
        induction l with
        | nil => exact Nat.zero_le _
        | cons b l ih =>
          rw [List.map_cons, List.sum_cons, List.length_cons, Nat.add_mul, Nat.one_mul]
          have := size_le (ll := ll) (d := d) h6 n (pre ++ [x]) b
          omega
      have h1 := hs (kids ll rs pre x)
      have h2 : (kids ll rs pre x).length ≤ 6 := Nat.le_trans (List.length_filter_le _ _) h6
      have h3 : (kids ll rs pre x).length * 7 ^ n ≤ 6 * 7 ^ n := Nat.mul_le_mul_right _ h2
      rw [Nat.pow_succ]
      omega
abbrev Node : Type := List Str × Str × Int
def nodeD (q : Node) : D := .tup [.tup ((q.1 ++ [q.2.1]).map D.str), .int q.2.2]
structure GoodN (rs : List Str) (q : Node) : Prop where
  nd : (q.1 ++ [q.2.1]).Nodup
  sub : ∀ y ∈ q.1 ++ [q.2.1], y ∈ rs
def smN (ll : Lens) (rs : List Str) (d : Str) (q : Node) : List Int := sums ll rs d (rs.length - q.1.length) q.1 q.2.1 q.2.2
def szN (ll : Lens) (rs : List Str) (d : Str) (q : Node) : Nat := size ll rs d (rs.length - q.1.length) q.1 q.2.1
def kidN (ll : Lens) (q : Node) (b : Str) : Node := (q.1 ++ [q.2.1], b, q.2.2 + stp ll q.2.1 b)
theorem GoodN.lt {rs : List Str} {q : Node} (h : GoodN rs q) : q.1.length < rs.length := by
  have := h.nd.length_le_of_subset fun y hy => h.sub y hy
  rw [List.length_append] at this
  simp only [List.length_cons, List.length_nil] at this
  omega
theorem smN_eq {ll : Lens} {rs : List Str} {d : Str} {q : Node} (h : GoodN rs q) : smN ll rs d q = if q.2.1 = d then [q.2.2] else (kids ll rs q.1 q.2.1).flatMap fun b => smN ll rs d (kidN ll q b) := by
  have hl := h.lt
  unfold smN kidN
  obtain ⟨n, hn⟩ : ∃ n, rs.length - q.1.length = n + 1 := ⟨rs.length - q.1.length - 1, by omega⟩
  have hn2 : rs.length - (q.1 ++ [q.2.1]).length = n := by
    rw [List.length_append]; simp only [List.length_cons, List.length_nil]; omega
  dsimp only
  rw [hn, hn2]
  rfl
theorem szN_eq {ll : Lens} {rs : List Str} {d : Str} {q : Node} (h : GoodN rs q) : szN ll rs d q = if q.2.1 = d then 1 else 1 + ((kids ll rs q.1 q.2.1).map fun b => szN ll rs d (kidN ll q b)).sum := by
  have hl := h.lt
  unfold szN kidN
  obtain ⟨n, hn⟩ : ∃ n, rs.length - q.1.length = n + 1 := ⟨rs.length - q.1.length - 1, by omega⟩
  have hn2 : rs.length - (q.1 ++ [q.2.1]).length = n := by
    rw [List.length_append]; simp only [List.length_cons, List.length_nil]; omega
  dsimp only
  rw [hn, hn2]
  rfl
theorem szN_pos {ll : Lens} {rs : List Str} {d : Str} {q : Node} (h : GoodN rs q) : 1 ≤ szN ll rs d q := by
  rw [szN_eq h]
  split <;> omega
theorem good_kid {ll : Lens} {rs : List Str} {q : Node} (h : GoodN rs q) {b : Str} (hb : b ∈ kids ll rs q.1 q.2.1) : GoodN rs (kidN ll q b) := by
  unfold kids at hb
  rw [List.mem_filter, Bool.and_eq_true, Bool.not_eq_true', decide_eq_false_iff_not] at hb
  refine ⟨?_, fun y hy => ?_⟩
  · show (q.1 ++ [q.2.1] ++ [b]).Nodup
    rw [List.nodup_append]
    refine ⟨h.nd, by simp, fun x hx y hy e => ?_⟩
    have : y = b := by simpa using hy
    subst this e
    exact hb.2.1 hx
  · have hy : y ∈ q.1 ++ [q.2.1] ++ [b] := hy
    rcases List.mem_append.mp hy with z | z
    · exact h.sub y z
    · have : y = b := by simpa using z
      subst this
      exact hb.1
theorem atI_last {xs : List Str} {x : Str} : atI ((xs ++ [x]).map D.str) (-1) = some (.str x) := by
  rw [List.map_append]
  unfold atI ixN
  have hl : (xs.map D.str ++ [x].map D.str).length = xs.length + 1 := by rw [List.length_append, List.length_map]; rfl
  rw [hl, if_neg (by decide), if_pos (by omega)]
  have e : ((-1 : Int) + ((xs.length + 1 : Nat) : Int)).toNat = xs.length := by omega
  rw [e]
  show (xs.map D.str ++ [x].map D.str)[xs.length]? = _
  rw [List.getElem?_append_right (by rw [List.length_map]; exact Nat.le_refl _), List.length_map, Nat.sub_self]
  rfl
theorem node_pl {rs : List Str} (hn : ∀ r ∈ rs, IsName r) {q : Node} (h : GoodN rs q) : plD (nodeD q) = true := by
  have h1 : plL ((q.1 ++ [q.2.1]).map D.str) = true := pl_strs fun s hs => hn s (h.sub s hs)
  show (plL ((q.1 ++ [q.2.1]).map D.str) && (true && true)) = true
  rw [h1]; rfl
theorem nodes_dp (w : List Node) : dpD (.lst (w.map nodeD)) ≤ 60 := by
  have : dpL (w.map nodeD) ≤ 2 := dpL_le.mpr fun d hd => by
    obtain ⟨q, hq, rfl⟩ := List.mem_map.mp hd
    have : dpL ((q.1 ++ [q.2.1]).map D.str) ≤ 0 := dpL_le.mpr fun d hd => by
      obtain ⟨s, hs, rfl⟩ := List.mem_map.mp hd
      exact Nat.le_refl 0
    show max (dpL ((q.1 ++ [q.2.1]).map D.str) + 1) (max 0 0) + 1 ≤ 2
    omega
  show dpL (w.map nodeD) + 1 ≤ 60
  omega
theorem len_le_sum {ll : Lens} {rs : List Str} {d : Str} : ∀ {w : List Node}, (∀ q ∈ w, GoodN rs q) → w.length ≤ (w.map (szN ll rs d)).sum
  | [], _ => Nat.le_refl _
  | q :: w, h => by
    have h1 := szN_pos (ll := ll) (d := d) (h q (List.mem_cons_self ..))
    have h2 := len_le_sum (ll := ll) (d := d) fun p hp => h p (List.mem_cons_of_mem _ hp)
    rw [List.map_cons, List.sum_cons, List.length_cons]
    omega
def kidB (ll : Lens) (q : Node) (b : Str) : Bool := !decide (b ∈ q.1 ++ [q.2.1]) && (aget ll (q.2.1, b)).isSome
theorem kids_eq (ll : Lens) (rs : List Str) (q : Node) : kids ll rs q.1 q.2.1 = rs.filter (kidB ll q) := rfl
def P_sums (m : FS) : Prop := ∀ (st : Store) (B : Int) (rs : List Str) (ls : List Lk) (a d : Str) (Q : D → Store → Prop), IsW B rs ls → rs.length ≤ 6 → a ∈ rs → d ∈ rs → (∀ zs : List Int, zs.Perm (sums (lensOf ls) rs d rs.length [] a 0) → zs.length ≤ 200000 → Q (.lst (zs.map D.int)) st) → Cl m [lD (lensOf ls), rsD rs, .str a, .str d] st Q
set_option maxHeartbeats 8000000 in
theorem sums_ok {T : Tab} : P_sums (den T N__law_sums 4 c__law_sums) := by
  intro st B rs ls a d Q w h6 ha hd k
  have g0 : GoodN rs ([], a, 0) := ⟨by simp, fun y hy => by
    have : y = a := by simpa using hy
    rw [this]
    exact ha⟩
  have hz0 : szN (lensOf ls) rs d ([], a, 0) ≤ 117649 := Nat.le_trans (size_le h6 _ _ _) (Nat.pow_le_pow_right (n := 7) (by decide) (show rs.length - 0 ≤ 6 by omega))
  have hS0 : smN (lensOf ls) rs d ([], a, 0) = sums (lensOf ls) rs d rs.length [] a 0 := rfl
  rw [← hS0] at k
  generalize lensOf ls = ll at hz0 k
  refine Cl.den rfl (i__law_sums _ _ _ _) ?_
  unfold c__law_sums
  (repeat (exists run1))
  refine ⟨rfl, ?_⟩
  (repeat (exists run1))
  refine ⟨rfl, ?_⟩
  (repeat (exists run1))
  refine ⟨rfl, ?_⟩
  have gl : ∀ q : Node, q ∈ [(([], a, 0) : Node)] → GoodN rs q := fun q hq => by
    have : q = ([], a, 0) := by simpa using hq
    rw [this]
    exact g0
  refine Aft.nx (Ex.seq (Ex.whl (fun kk e s => ∃ (zs : List Int) (v : List Node) (s6 s7 s8 : Sl), e = [.val (lD ll), .val (rsD rs), .val (.str a), .val (.str d), .own (.lst (zs.map D.int)), .own (.lst (v.map nodeD)), s6, s7, s8] ∧ s = st ∧ kk = (v.map (szN ll rs d)).sum ∧ (∀ q ∈ v, GoodN rs q) ∧ (zs ++ v.flatMap (smN ll rs d)).Perm (smN ll rs d ([], a, 0)) ∧ zs.length + (v.map (szN ll rs d)).sum ≤ 117649) ([(([], a, 0) : Node)].map (szN ll rs d)).sum ⟨[], [([], a, 0)], .un, .un, .un, rfl, rfl, rfl, gl, by simp, by simpa using hz0⟩ ?_))
  rintro kk e s ⟨zs, v, s6, s7, s8, rfl, rfl, hk, hg, hp, hl⟩
  (repeat (exists run1))
  refine pr_nepl (plL_all.mpr fun d' hd' => by
    obtain ⟨q, hq, rfl⟩ := List.mem_map.mp hd'
    exact node_pl w.names (hg q hq)) rfl (nodes_dp v) (by show 1 ≤ 60; decide) fun z hz => ?_
  (repeat (exists run1))
  refine ⟨fun g => ?_, fun g => ?_⟩
  · have hv : v ≠ [] := fun e => by
      have := hz.mpr (by rw [e]; rfl)
      rw [g] at this
      cases this
    obtain ⟨v0, q, rfl⟩ : ∃ v0 q, v = v0 ++ [q] := ⟨v.dropLast, v.getLast hv, (List.dropLast_concat_getLast hv).symm⟩
    have gq : GoodN rs q := hg q (List.mem_append_right _ (List.mem_singleton.mpr rfl))
    have g0' : ∀ p ∈ v0, GoodN rs p := fun p hp => hg p (List.mem_append_left _ hp)
    rw [List.map_append, List.sum_append] at hl hk
    have hsq : ([q].map (szN ll rs d)).sum = szN ll rs d q := by simp
    rw [hsq] at hl hk
    rw [List.flatMap_append] at hp
    have hfq : [q].flatMap (smN ll rs d) = smN ll rs d q := by simp
    rw [hfq] at hp
    have hl0 := len_le_sum (ll := ll) (d := d) g0'
    refine Ex.seq (Ex.popTo (xs := v0.map nodeD) (ys := [.tup ((q.1 ++ [q.2.1]).map D.str), .int q.2.2]) (by rw [List.map_append]; rfl) rfl ?_)
    (repeat (first | exists run1 | refine pr_subt atI_last ?_))
    refine ⟨fun g2 => ?_, fun g2 => ?_⟩
    · have ex : q.2.1 = d := beq_iff_eq.mp g2
      rw [szN_eq gq, if_pos ex] at hl hk
      rw [smN_eq gq, if_pos ex] at hp
      (repeat (exists run1))
      refine ⟨_, rfl, by rw [List.length_map, sizeLine_eq]; omega, ?_⟩
      (repeat (exists run1))
      have e4 : (zs ++ [q.2.2]).map D.int = zs.map D.int ++ [.int q.2.2] := by rw [List.map_append]; rfl
      refine ⟨(v0.map (szN ll rs d)).sum, by omega, zs ++ [q.2.2], v0, s6, .val (.tup ((q.1 ++ [q.2.1]).map D.str)), .val (.int q.2.2), by rw [e4]; rfl, rfl, rfl, g0', ?_, by rw [List.length_append]; simp only [List.length_cons, List.length_nil]; omega⟩
      refine List.Perm.trans ?_ hp
      rw [List.append_assoc]
      exact List.Perm.append_left _ List.perm_append_comm
    · have ex : ¬ q.2.1 = d := fun e => by rw [e, beq_self_eq_true] at g2; cases g2
      rw [szN_eq gq, if_neg ex] at hl hk
      rw [smN_eq gq, if_neg ex] at hp
      unfold rsD
      (repeat (exists run1))
      refine Lp.inv (fun j e s' => (∃ s6, e = [.val (lD ll), .val (.tup (rs.map D.str)), .val (.str a), .val (.str d), .own (.lst (zs.map D.int)), .own (.lst ((v0 ++ ((rs.take j).filter (kidB ll q)).map (kidN ll q)).map nodeD)), s6, .val (.tup ((q.1 ++ [q.2.1]).map D.str)), .val (.int q.2.2)]) ∧ s' = s) ⟨⟨s6, by rw [List.take_zero, List.filter_nil, List.map_nil, List.append_nil]; rfl⟩, rfl⟩ ?_ ?_
      · rintro j y e s' hy ⟨⟨s6', rfl⟩, rfl⟩
        rw [List.getElem?_map] at hy
        obtain ⟨b, hb, rfl⟩ := Option.map_eq_some_iff.mp hy
        have hbr : b ∈ rs := List.mem_of_getElem? hb
        have nxt : (rs.take (j + 1)).filter (kidB ll q) = (rs.take j).filter (kidB ll q) ++ (if kidB ll q b = true then [b] else []) := by
          rw [List.take_succ, hb, List.filter_append]
          congr 1
          show [b].filter (kidB ll q) = _
          rw [List.filter_cons]
          rfl
        have hrow : ∀ s ∈ q.1 ++ [q.2.1], IsName s := fun s hs => w.names s (gq.sub s hs)
        (repeat (exists run1))
        refine pr_intup rfl (flats_str _) (name_ok (w.names b hbr)) (pl_strs hrow) fun c hc => ?_
        have hc' : c = decide (b ∈ q.1 ++ [q.2.1]) := by
          rw [Bool.eq_iff_iff, hc, str_mem, decide_eq_true_eq]
        (repeat (exists run1))
        have skip : kidB ll q b = false → ∃ s6, [Sl.val (lD ll), .val (.tup (rs.map D.str)), .val (.str a), .val (.str d), .own (.lst (zs.map D.int)), .own (.lst ((v0 ++ ((rs.take j).filter (kidB ll q)).map (kidN ll q)).map nodeD)), .val (.str b), .val (.tup ((q.1 ++ [q.2.1]).map D.str)), .val (.int q.2.2)] = [Sl.val (lD ll), .val (.tup (rs.map D.str)), .val (.str a), .val (.str d), .own (.lst (zs.map D.int)), .own (.lst ((v0 ++ ((rs.take (j + 1)).filter (kidB ll q)).map (kidN ll q)).map nodeD)), s6, .val (.tup ((q.1 ++ [q.2.1]).map D.str)), .val (.int q.2.2)] := fun h => by
          refine ⟨.val (.str b), ?_⟩
          rw [nxt, h, if_neg (by decide), List.append_nil]
        refine ⟨fun g3 => ?_, fun g3 => ?_⟩
        · unfold lD
          (repeat (first | exists run1 | refine pr_subt atI_last ?_))
          refine pr_inP ?_
          (repeat (exists run1))
          refine ⟨fun g4 => ?_, fun g4 => ?_⟩
          · obtain ⟨wt, hw⟩ := Option.isSome_iff_exists.mp g4
            have hkb : kidB ll q b = true := by
              unfold kidB
              rw [← hc', g3, g4]; rfl
            have hst : stp ll q.2.1 b = wt := by unfold stp; rw [hw]; rfl
            (repeat (first | exists run1 | refine pr_subt atI_last ?_ | refine pr_subP hw ?_))
            refine pr_addt ?_ ?_
            · rw [List.length_map, List.length_append, sizeLine_eq]
              have := gq.lt
              show _ + 1 + 1 ≤ _
              omega
            (repeat (first | exists run1 | refine pr_subt atI_last ?_ | refine pr_subP hw ?_))
            refine ⟨_, rfl, ?_, ?_⟩
            · rw [List.length_map, List.length_append, List.length_map, sizeLine_eq]
              have := List.length_filter_le (kidB ll q) (rs.take j)
              rw [List.length_take] at this
              omega
            · refine Trn.nx ⟨⟨.val (.str b), ?_⟩, rfl⟩
              have e5 : ∀ F : List Str, (v0 ++ (F ++ [b]).map (kidN ll q)).map nodeD = (v0 ++ F.map (kidN ll q)).map nodeD ++ [D.tup [.tup ((q.1 ++ [q.2.1]).map D.str ++ [.str b]), .int (q.2.2 + wt)]] := fun F => by
                rw [List.map_append (l₁ := F), ← List.append_assoc, List.map_append (l₁ := v0 ++ F.map (kidN ll q))]
                congr 1
                unfold kidN nodeD
                rw [List.map_cons, List.map_nil, List.map_cons, List.map_nil, hst, List.map_append (l₁ := q.1 ++ [q.2.1])]
                rfl
              rw [nxt, if_pos hkb, e5]
              rfl
          · (repeat (exists run1))
            exact ⟨skip (by unfold kidB; rw [g4, Bool.and_false]), rfl⟩
        · (repeat (exists run1))
          refine ⟨fun h => (by cases h), fun _ => ?_⟩
          (repeat (exists run1))
          have hct : c = true := by
            cases c with
            | true => rfl
            | false => cases g3
          exact ⟨skip (by unfold kidB; rw [← hc', hct, Bool.not_true, Bool.false_and]), rfl⟩
      · rintro e s' ⟨⟨s6', rfl⟩, rfl⟩
        rw [List.length_map, List.take_length, ← kids_eq]
        refine Trn.nx ⟨((v0 ++ (kids ll rs q.1 q.2.1).map (kidN ll q)).map (szN ll rs d)).sum, ?_, zs, v0 ++ (kids ll rs q.1 q.2.1).map (kidN ll q), s6', _, _, rfl, rfl, rfl, fun p hp' => ?_, ?_, ?_⟩
        · rw [List.map_append, List.sum_append, List.map_map]
          have : ((kids ll rs q.1 q.2.1).map (szN ll rs d ∘ kidN ll q)).sum = ((kids ll rs q.1 q.2.1).map fun b => szN ll rs d (kidN ll q b)).sum := rfl
          omega
        · rcases List.mem_append.mp hp' with h | h
          · exact g0' p h
          · obtain ⟨b, hb, rfl⟩ := List.mem_map.mp h
            exact good_kid gq hb
        · refine List.Perm.trans ?_ hp
          rw [List.flatMap_append, List.flatMap_map]
        · rw [List.map_append, List.sum_append, List.map_map]
          have : ((kids ll rs q.1 q.2.1).map (szN ll rs d ∘ kidN ll q)).sum = ((kids ll rs q.1 q.2.1).map fun b => szN ll rs d (kidN ll q b)).sum := rfl
          omega
  · have he := hz.mp g
    injection he with he
    have hv0 : v = [] := List.map_eq_nil_iff.mp he
    subst hv0
    (repeat (exists run1))
    refine k zs (by simpa using hp) (by omega)
end Q

set_option Elab.async false
set_option linter.all false
set_option maxRecDepth 100000
set_option maxHeartbeats 1000000
namespace Q
open PySem PySem.Spec PyProof.Rows L2
local macro_rules
  | `(tactic| exists run1) => `(tactic| (first
      | with_reducible refine Ex.seq ?_ | with_reducible refine Ex.set ?_ | with_reducible refine Ex.ret ?_ | with_reducible refine Ex.exp ?_ | with_reducible refine Ex.setOwn ?_ | with_reducible refine Ex.unpack ?_ | with_reducible refine Ex.par ?_ | with_reducible refine Ex.put ?_ | with_reducible refine Ex.app ?_ | with_reducible refine Ex.ext ?_ | with_reducible refine Ex.iff ?_ | with_reducible refine Ex.skip ?_ | with_reducible refine Ex.retN ?_ | with_reducible refine Ex.cont ?_ | with_reducible refine Ex.puts ?_ | with_reducible refine Ex.setA ?_ | with_reducible refine Ex.loop ?_
      | (with_reducible refine Ee.isv ?_; refine Ee.var rfl ?_)
      | with_reducible refine Ee.int ?_ | with_reducible refine Ee.bl ?_ | with_reducible refine Ee.str ?_ | with_reducible refine Ee.non ?_ | with_reducible refine Ee.tup ?_ | with_reducible refine Ee.lst ?_ | with_reducible refine Ee.bin ?_ | with_reducible refine Ee.neg ?_ | with_reducible refine Ee.cmp ?_ | with_reducible refine Ee.chain ?_ | with_reducible refine Ee.and ?_ | with_reducible refine Ee.or ?_ | with_reducible refine Ee.not ?_ | with_reducible refine Ee.ife ?_ | with_reducible refine Ee.sub ?_ | with_reducible refine Ee.slice ?_ | with_reducible refine Ee.rev ?_ | with_reducible refine Ee.sortset ?_ | with_reducible refine Ee.isi ?_ | with_reducible refine Ee.blt ?_ | with_reducible refine Ee.dct ?_ | with_reducible refine Ee.dnewT ?_ | with_reducible refine Ee.dnewK ?_
      | with_reducible refine El.cons ?_ | with_reducible refine El.nil ?_ | with_reducible refine Ep.nil ?_ | with_reducible refine Ep.val ?_ | with_reducible refine Ep.own ?_ | with_reducible refine Eo.no ?_ | with_reducible refine Eo.yes ?_ | with_reducible refine Eb.no ?_ | with_reducible refine Eb.yes ?_
      | with_reducible refine Ei.exv ?_ | with_reducible refine Ei.ex rfl ?_ | with_reducible refine Ei.rng1 ?_ | with_reducible refine Ei.rng2 ?_ | with_reducible refine Ei.enum ?_ | with_reducible refine Ei.zip ?_
      | with_reducible refine Aft.nx ?_ | with_reducible refine Aft.rt ?_ | with_reducible refine Aft.ct ?_ | with_reducible refine Trn.nx ?_ | with_reducible refine Trn.rt ?_ | with_reducible refine Trn.ct ?_ | with_reducible refine Fin.rt ?_ | with_reducible refine Fin.nx ?_
      | with_reducible refine Ts.mk ?_ | with_reducible refine Pt.mk ?_ | with_reducible refine exb ?_ | with_reducible refine exi ?_ | with_reducible refine exii ?_
      | with_reducible refine pr_add ?_ | with_reducible refine pr_sub ?_ | with_reducible refine pr_gt ?_ | with_reducible refine pr_le ?_ | with_reducible refine pr_ge ?_ | with_reducible refine pr_lt ?_ | with_reducible refine pr_lts ?_ | with_reducible refine pr_eqi ?_ | with_reducible refine pr_nei ?_ | with_reducible refine pr_eqs ?_ | with_reducible refine pr_nes ?_ | with_reducible refine pr_eqb ?_ | with_reducible refine pr_in ?_ | with_reducible refine pr_nin ?_
      | with_reducible refine pr_len_l ?_ | with_reducible refine pr_len_t ?_ | with_reducible refine pr_len_r ?_ | with_reducible refine pr_len_k ?_ | with_reducible refine pr_abs ?_ | with_reducible refine pr_max ?_ | with_reducible refine pr_min ?_ | with_reducible refine pr_int ?_ | with_reducible refine pr_intb ?_ | with_reducible refine pr_tup_l ?_ | with_reducible refine pr_list_l ?_ | with_reducible refine pr_list_t ?_ | with_reducible refine pr_sorted ?_ | with_reducible refine pr_repr ?_
      | with_reducible refine pr_items_l ?_ | with_reducible refine pr_items_t ?_ | with_reducible refine pr_keys_l ?_ | with_reducible refine pr_keys_t ?_ | with_reducible refine pr_keys_k ?_ | with_reducible refine pr_keys_kt ?_ | with_reducible refine pr_sl_l ?_ | with_reducible refine pr_sl_t ?_ | with_reducible refine pr_rev ?_ | with_reducible refine pr_bind1 ?_ | with_reducible refine pr_binds1 ?_
      | (with_reducible refine pr_cell (by assumption) ?_ ?_; exact rfl)
      | rw [sF_vals rfl]))
/-! ### sorted(set(numbers)), sorted(numbers) -/
theorem dataLt_int (x y : Int) : PySem.W.dataLt (.int x) (.int y) = decide (x < y) := by
  have h := congrFun (congrFun (PySem.W.dataLe_int (β := Int) (k := id)) y) x
  have h2 : (!PySem.W.dataLt (.int x) (.int y)) = decide (y ≤ x) := h
  cases e : PySem.W.dataLt (.int x) (.int y) with
  | true =>
    rw [e] at h2
    have : ¬ (y ≤ x) := of_decide_eq_false h2.symm
    exact (decide_eq_true (show x < y by omega)).symm
  | false =>
    rw [e] at h2
    have : y ≤ x := of_decide_eq_true h2.symm
    exact (decide_eq_false (show ¬ x < y by omega)).symm
theorem sortset_ints {ss : List Int} (h : ss.length < 64) : ∃ ys : List Int, sortSetD (.lst (ss.map D.int)) = some (.lst (ys.map D.int)) ∧ (∀ s, s ∈ ys ↔ s ∈ ss) ∧ ys.Pairwise (· < ·) := by
  have al : alikeOk ((ss.map Sum.inl).map encK) = true := by
    unfold alikeOk
    rw [List.all_eq_true]
    intro p hp
    rw [List.all_eq_true]
    intro q hq
    rw [List.map_map] at hp hq
    obtain ⟨a, _, rfl⟩ := List.mem_map.mp hp
    obtain ⟨b, _, rfl⟩ := List.mem_map.mp hq
    rfl
  have all : ∀ k ∈ sortU encK (ss.map Sum.inl), ∃ s, k = Sum.inl s := fun k hk => by
    rw [mem_sortU] at hk
    obtain ⟨s, _, rfl⟩ := List.mem_map.mp hk
    exact ⟨s, rfl⟩
  have conv : ∀ l : List Key, (∀ k ∈ l, ∃ s, k = Sum.inl s) → ∃ ys : List Int, l = ys.map Sum.inl := by
    intro l
    induction l with
    | nil => intro _; exact ⟨[], rfl⟩
    | cons k l ih =>
      intro hl
      obtain ⟨s, rfl⟩ := hl k (List.mem_cons_self ..)
      obtain ⟨ys, rfl⟩ := ih fun k hk => hl k (List.mem_cons_of_mem _ hk)
      exact ⟨s :: ys, rfl⟩
  obtain ⟨ys, hy⟩ := conv _ all
  refine ⟨ys, ?_, fun s => ?_, ?_⟩
  · unfold sortSetD
    dsimp only
    rw [if_pos (by rw [List.length_map]; exact h), ints_keys]
    dsimp only
    rw [if_pos al, hy, List.map_map]
    rfl
  · have := mem_sortU (enc := encK) (k := (Sum.inl s : Key)) (ks := ss.map Sum.inl)
    rw [hy] at this
    simpa using this
  · have := sortU_sorted (enc := encK) encK_inj (ks := ss.map Sum.inl)
    rw [hy, List.pairwise_map] at this
    refine this.imp fun {a b} h => ?_
    have h : PySem.W.dataLt (.int a) (.int b) = true := h
    rw [dataLt_int] at h
    exact of_decide_eq_true h
theorem pyL_ints : ∀ ps : List Int, D.pyL (ps.map D.int) = some (ps.map PyData.int)
  | [] => rfl
  | p :: ps => by rw [List.map_cons, D.pyL, pyL_ints ps]; rfl
theorem leP_int {a b : Int} : leP (.int a) (.int b) = true ↔ a ≤ b := by
  have e : leP (.int a) (.int b) = !PySem.W.dataLt (.int b) (.int a) := rfl
  rw [e, dataLt_int, Bool.not_eq_true', decide_eq_false_iff_not]
  omega
theorem sort_ints (ps : List Int) : ∃ ys : List Int, sortD (ps.map D.int) = some (.lst (ys.map D.int)) ∧ ys.Perm ps ∧ ys.Pairwise (· ≤ ·) := by
  have al : alikeOk (ps.map PyData.int) = true := by
    unfold alikeOk
    rw [List.all_eq_true]
    intro p hp
    rw [List.all_eq_true]
    intro q hq
    obtain ⟨a, _, rfl⟩ := List.mem_map.mp hp
    obtain ⟨b, _, rfl⟩ := List.mem_map.mp hq
    rfl
  have sb : sortableB (ps.map PyData.int) = true := by
    unfold sortableB
    rw [Bool.or_eq_true]
    refine .inr ?_
    rw [List.all_eq_true]
    intro p hp
    obtain ⟨a, _, rfl⟩ := List.mem_map.mp hp
    rfl
  have dp : depthOk (ps.map PyData.int) = true := by
    unfold depthOk
    rw [List.all_eq_true]
    intro p hp
    obtain ⟨a, _, rfl⟩ := List.mem_map.mp hp
    rfl
  refine ⟨ps.mergeSort fun a b => leP (.int a) (.int b), ?_, List.mergeSort_perm _ _, ?_⟩
  · unfold sortD
    rw [pyL_ints]
    dsimp only
    rw [al, sb, dp, List.map_mergeSort (r := fun a b => leP (.int a) (.int b)) (s := leP) (f := D.int) (fun a _ b _ => rfl)]
    rfl
  · have := List.pairwise_mergeSort (le := fun a b : Int => leP (.int a) (.int b)) (fun a b c h k => leP_int.mpr (Int.le_trans (leP_int.mp h) (leP_int.mp k))) (fun a b => by
      rw [Bool.or_eq_true, leP_int, leP_int]
      omega) ps
    exact this.imp fun h => leP_int.mp h
/-! ### distance -/
def optI : Option Int → D
  | none => .non
  | some v => .int v
def P_distance (m : FS) : Prop := ∀ (st : Store) (B : Int) (rs : List Str) (ls : List Lk) (a d : Str) (Q : D → Store → Prop), IsW B rs ls → a ∈ rs → d ∈ rs → Q (optI (aget (distOf rs.length (lensOf ls) d) a)) st → Cl m [netD rs ls, .str a, .str d] st Q
theorem distance_ok {T : Tab} (hN : NetT T) (h1 : Has T "check_routers" P_check) (h2 : Has T "distances_to" P_dist) (h3 : Has T "lengths_of" P_lens) : P_distance (den T N_distance 3 c_distance) := by
  intro st B rs ls a d Q w ha hd k
  refine Cl.den rfl (i_distance _ _ _) ?_
  unfold c_distance
  (repeat (exists run1))
  refine Ee.callH h1 fun m1 hm1 => ?_
  (repeat (exists run1))
  refine hm1 _ rs ls [a, d] _ w.names (fun s hs => ?_) ?_
  · simp only [List.mem_cons, List.not_mem_nil, or_false] at hs
    rcases hs with rfl | rfl
    · exact ha
    · exact hd
  (repeat (exists run1))
  refine Ee.mcall ?_
  refine Ee.callH h2 fun m2 hm2 => ?_
  (repeat (first | exists run1 | refine Ee.routers hN ?_ | refine ⟨_, _, rfl, ?_⟩))
  refine Ee.callH h3 fun m3 hm3 => ?_
  (repeat (exists run1))
  refine hm3 _ B rs ls _ w ?_
  (repeat (exists run1))
  refine hm2 _ rs (lensOf ls) d _ w.eight (lens100 w) (lens_keys w) ?_
  refine ⟨rfl, ?_⟩
  (repeat (exists run1))
  refine pr_getS ?_
  (repeat (exists run1))
  cases e : aget (distOf rs.length (lensOf ls) d) a with
  | none => rw [e] at k; exact k
  | some v => rw [e] at k; exact k
/-! ### the distances' keys -/
theorem put_nd {f : Dst} {k : Str} {v : Int} (h : (f.map (·.1)).Nodup) : ((aput f k v).map (·.1)).Nodup := by
  rw [keys_put]
  split
  · exact h
  · rename_i hk
    rw [List.nodup_append]
    refine ⟨h, by simp, fun x hx y hy e => ?_⟩
    have : y = k := by simpa using hy
    subst this e
    exact hk hx
theorem relax_nd {f : Dst} (p : (Str × Str) × Int) (h : (f.map (·.1)).Nodup) : ((relax f p).map (·.1)).Nodup := by
  unfold relax
  split
  · exact h
  · split
    · exact put_nd h
    · split
      · exact put_nd h
      · exact h
theorem rnd_nd : ∀ (ll : Lens) (f : Dst), (f.map (·.1)).Nodup → ((rnd ll f).map (·.1)).Nodup
  | [], _, h => h
  | p :: ll, f, h => rnd_nd ll (relax f p) (relax_nd p h)
theorem rnds_nd (ll : Lens) : ∀ (n : Nat) (f : Dst), (f.map (·.1)).Nodup → ((rnds ll n f).map (·.1)).Nodup
  | 0, _, h => h
  | n + 1, f, h => rnd_nd ll _ (rnds_nd ll n f h)
theorem dist_nd (n : Nat) (ll : Lens) (d : Str) : ((distOf n ll d).map (·.1)).Nodup := rnds_nd ll n _ (by simp)
theorem dis_in {B : Int} {rs : List Str} {ls : List Lk} (w : IsW B rs ls) {d : Str} {f : Dst} (hd : d ∈ rs) (hf : Dis (lensOf ls) d f) {x : Str} {v : Int} (h : aget f x = some v) : x ∈ rs := by
  obtain ⟨r, hp⟩ := hf.snd x v h
  cases hp with
  | nil => exact hd
  | cons hm _ => exact (lens_in w _ hm).1
theorem dist_len {B : Int} {rs : List Str} {ls : List Lk} (w : IsW B rs ls) {d : Str} {f : Dst} (hd : d ∈ rs) (hf : Dis (lensOf ls) d f) (nd : (f.map (·.1)).Nodup) : f.length ≤ 8 := by
  have h : (f.map (·.1)).length ≤ rs.length := nd.length_le_of_subset fun x hx => by
    obtain ⟨p, hp, rfl⟩ := List.mem_map.mp hx
    exact dis_in w hd hf (aget_of nd hp)
  rw [List.length_map] at h
  exact Nat.le_trans h w.eight
/-! ### ways -/
def wayI (rs : List Str) (ls : List Lk) (d x : Str) : Int := (wayN (fun a => nx rs ls a d) d rs.length x : Nat)
theorem wayI_d {B : Int} {rs : List Str} {ls : List Lk} (w : IsW B rs ls) (d : Str) : wayI rs ls d d = 1 := by
  have := w.two
  unfold wayI
  obtain ⟨n, hn⟩ : ∃ n, rs.length = n + 1 := ⟨rs.length - 1, by omega⟩
  rw [hn]
  unfold wayN
  rw [if_pos rfl]; rfl
theorem sum_cast {α : Type} (g : α → Nat) : ∀ l : List α, (l.map fun x => ((g x : Nat) : Int)).sum = (((l.map g).sum : Nat) : Int)
  | [] => rfl
  | x :: l => by rw [List.map_cons, List.sum_cons, List.map_cons, List.sum_cons, sum_cast g l]; omega
theorem wayI_step {B : Int} {rs : List Str} {ls : List Lk} (w : IsW B rs ls) {d x : Str} {f : Dst} {v : Int} (hd : d ∈ rs) (hf : Dis (lensOf ls) d f) (hx : aget f x = some v) (hne : x ≠ d) : wayI rs ls d x = ((nx rs ls x d).map (wayI rs ls d)).sum := by
  have h2 := w.two
  have hxr := dis_in w hd hf hx
  have hle := K05.nearer_le hxr hx
  unfold wayI
  rw [sum_cast]
  obtain ⟨n, hn⟩ : ∃ n, rs.length = n + 1 := ⟨rs.length - 1, by omega⟩
  have e : wayN (fun a => nx rs ls a d) d rs.length x = ((nx rs ls x d).map (wayN (fun a => nx rs ls a d) d n)).sum := by
    rw [hn]
    show (if x = d then 1 else _) = _
    rw [if_neg hne]
  rw [e]
  congr 1
  refine sum_congr fun b hb => ?_
  obtain ⟨hbr, u, v', hu, hv', huv⟩ := K05.nx_mem w hd hf hb
  rw [hx] at hv'
  cases hv'
  have := K05.nearer_lt hbr hu huv
  exact wayN_still w hd hf n rs.length b u hu (by omega) (by omega)
end Q

set_option Elab.async false
set_option linter.all false
set_option maxRecDepth 100000
set_option maxHeartbeats 1000000
namespace Q
open PySem PySem.Spec PyProof.Rows L2
local macro_rules
  | `(tactic| exists run1) => `(tactic| (first
      | with_reducible refine Ex.seq ?_ | with_reducible refine Ex.set ?_ | with_reducible refine Ex.ret ?_ | with_reducible refine Ex.exp ?_ | with_reducible refine Ex.setOwn ?_ | with_reducible refine Ex.unpack ?_ | with_reducible refine Ex.par ?_ | with_reducible refine Ex.put ?_ | with_reducible refine Ex.app ?_ | with_reducible refine Ex.ext ?_ | with_reducible refine Ex.iff ?_ | with_reducible refine Ex.skip ?_ | with_reducible refine Ex.retN ?_ | with_reducible refine Ex.cont ?_ | with_reducible refine Ex.puts ?_ | with_reducible refine Ex.setA ?_ | with_reducible refine Ex.loop ?_
      | (with_reducible refine Ee.isv ?_; refine Ee.var rfl ?_)
      | with_reducible refine Ee.int ?_ | with_reducible refine Ee.bl ?_ | with_reducible refine Ee.str ?_ | with_reducible refine Ee.non ?_ | with_reducible refine Ee.tup ?_ | with_reducible refine Ee.lst ?_ | with_reducible refine Ee.bin ?_ | with_reducible refine Ee.neg ?_ | with_reducible refine Ee.cmp ?_ | with_reducible refine Ee.chain ?_ | with_reducible refine Ee.and ?_ | with_reducible refine Ee.or ?_ | with_reducible refine Ee.not ?_ | with_reducible refine Ee.ife ?_ | with_reducible refine Ee.sub ?_ | with_reducible refine Ee.slice ?_ | with_reducible refine Ee.rev ?_ | with_reducible refine Ee.sortset ?_ | with_reducible refine Ee.isi ?_ | with_reducible refine Ee.blt ?_ | with_reducible refine Ee.dct ?_ | with_reducible refine Ee.dnewT ?_ | with_reducible refine Ee.dnewK ?_
      | with_reducible refine El.cons ?_ | with_reducible refine El.nil ?_ | with_reducible refine Ep.nil ?_ | with_reducible refine Ep.val ?_ | with_reducible refine Ep.own ?_ | with_reducible refine Eo.no ?_ | with_reducible refine Eo.yes ?_ | with_reducible refine Eb.no ?_ | with_reducible refine Eb.yes ?_
      | with_reducible refine Ei.exv ?_ | with_reducible refine Ei.ex rfl ?_ | with_reducible refine Ei.rng1 ?_ | with_reducible refine Ei.rng2 ?_ | with_reducible refine Ei.enum ?_ | with_reducible refine Ei.zip ?_
      | with_reducible refine Aft.nx ?_ | with_reducible refine Aft.rt ?_ | with_reducible refine Aft.ct ?_ | with_reducible refine Trn.nx ?_ | with_reducible refine Trn.rt ?_ | with_reducible refine Trn.ct ?_ | with_reducible refine Fin.rt ?_ | with_reducible refine Fin.nx ?_
      | with_reducible refine Ts.mk ?_ | with_reducible refine Pt.mk ?_ | with_reducible refine exb ?_ | with_reducible refine exi ?_ | with_reducible refine exii ?_
      | with_reducible refine pr_add ?_ | with_reducible refine pr_sub ?_ | with_reducible refine pr_gt ?_ | with_reducible refine pr_le ?_ | with_reducible refine pr_ge ?_ | with_reducible refine pr_lt ?_ | with_reducible refine pr_lts ?_ | with_reducible refine pr_eqi ?_ | with_reducible refine pr_nei ?_ | with_reducible refine pr_eqs ?_ | with_reducible refine pr_nes ?_ | with_reducible refine pr_eqb ?_ | with_reducible refine pr_in ?_ | with_reducible refine pr_nin ?_
      | with_reducible refine pr_len_l ?_ | with_reducible refine pr_len_t ?_ | with_reducible refine pr_len_r ?_ | with_reducible refine pr_len_k ?_ | with_reducible refine pr_abs ?_ | with_reducible refine pr_max ?_ | with_reducible refine pr_min ?_ | with_reducible refine pr_int ?_ | with_reducible refine pr_intb ?_ | with_reducible refine pr_tup_l ?_ | with_reducible refine pr_list_l ?_ | with_reducible refine pr_list_t ?_ | with_reducible refine pr_sorted ?_ | with_reducible refine pr_repr ?_
      | with_reducible refine pr_items_l ?_ | with_reducible refine pr_items_t ?_ | with_reducible refine pr_keys_l ?_ | with_reducible refine pr_keys_t ?_ | with_reducible refine pr_keys_k ?_ | with_reducible refine pr_keys_kt ?_ | with_reducible refine pr_sl_l ?_ | with_reducible refine pr_sl_t ?_ | with_reducible refine pr_rev ?_ | with_reducible refine pr_bind1 ?_ | with_reducible refine pr_binds1 ?_
      | (with_reducible refine pr_cell (by assumption) ?_ ?_; exact rfl)
      | rw [sF_vals rfl]))
/-- how many ways there are from a to d, by the distances f -/
def waysI (rs : List Str) (ls : List Lk) (f : Dst) (d a : Str) : Int := match aget f a with
  | some _ => wayI rs ls d a
  | none => 0
/-- the table F of ways, filled for the distances that p says -/
def Filled (rs : List Str) (ls : List Lk) (f F : Dst) (d : Str) (p : Str → Int → Prop) : Prop :=
  aget F d = some 1 ∧ ∀ x, x ≠ d → (∀ v, aget f x = some v → p x v → aget F x = some (wayI rs ls d x)) ∧ ((aget f x = none ∨ ∃ v, aget f x = some v ∧ ¬ p x v) → aget F x = none)
def P_ways (m : FS) : Prop := ∀ (st : Store) (B : Int) (rs : List Str) (ls : List Lk) (a d : Str) (Q : D → Store → Prop), IsW B rs ls → a ∈ rs → d ∈ rs → Q (.int (waysI rs ls (distOf rs.length (lensOf ls) d) d a)) st → Cl m [netD rs ls, .str a, .str d] st Q
theorem ints_of : ∀ l : List Int, intsOf (l.map D.int) = some l
  | [] => rfl
  | x :: l => by rw [List.map_cons, intsOf, ints_of l]; rfl
set_option maxHeartbeats 8000000 in
theorem ways_ok {T : Tab} (hN : NetT T) (h1 : Has T "check_routers" P_check) (h2 : Has T "next_tables" P_ntab) (h3 : Has T "distances_to" P_dist) (h4 : Has T "lengths_of" P_lens) : P_ways (den T N_ways 3 c_ways) := by
  intro st B rs ls a d Q w ha hd k
  have hf := dis_prog w hd
  have nd := dist_nd rs.length (lensOf ls) d
  have h8 := dist_len w hd hf nd
  have hr8 := w.eight
  refine Cl.den rfl (i_ways _ _ _) ?_
  unfold c_ways
  (repeat (exists run1))
  refine Ee.callH h1 fun m1 hm1 => ?_
  (repeat (exists run1))
  refine hm1 _ rs ls [a, d] _ w.names (fun s hs => ?_) ?_
  · simp only [List.mem_cons, List.not_mem_nil, or_false] at hs
    rcases hs with rfl | rfl
    · exact ha
    · exact hd
  (repeat (exists run1))
  refine Ee.callH h2 fun m2 hm2 => ?_
  (repeat (exists run1))
  refine hm2 _ B rs ls _ w ?_
  (repeat (exists run1))
  refine Ee.callH h3 fun m3 hm3 => ?_
  (repeat (first | exists run1 | refine Ee.routers hN ?_ | refine ⟨_, _, rfl, ?_⟩))
  refine Ee.callH h4 fun m4 hm4 => ?_
  (repeat (exists run1))
  refine hm4 _ B rs ls _ w ?_
  (repeat (exists run1))
  refine hm3 _ rs (lensOf ls) d _ w.eight (lens100 w) (lens_keys w) ?_
  generalize distOf rs.length (lensOf ls) d = f at hf nd h8 k
  (repeat (exists run1))
  refine Pr.of rfl ⟨rfl, ?_⟩
  (repeat (exists run1))
  refine Ee.comp_map f (fun p => D.str p.1) (fun p => !(p.1 == d)) (fun p => D.int p.2) ?_
  (repeat (first | exists run1 | refine pr_keysS ?_))
  refine ⟨rfl, fun p hp => ?_, ?_⟩
  · unfold Cp
    have hg : aget f p.1 = some p.2 := aget_of nd hp
    (repeat (first | exists run1 | refine pr_subS hg ?_))
    refine ⟨fun g => ?_, fun g => ?_⟩
    · (repeat (first | exists run1 | refine pr_subS hg ?_))
      exact ⟨by rw [g]; rfl, rfl⟩
    · exact ⟨by rw [g]; rfl, rfl⟩
  have ef : (f.filter fun p => !(p.1 == d)).map (fun p => D.int p.2) = ((f.filter fun p => !(p.1 == d)).map (·.2)).map D.int := by rw [List.map_map]; rfl
  rw [ef]
  obtain ⟨ys, y1, y2, y3⟩ := sortset_ints (ss := (f.filter fun p => !(p.1 == d)).map (·.2)) (by
    rw [List.length_map]
    have := List.length_filter_le (fun p : Str × Int => !(p.1 == d)) f
    omega)
  have hys : ∀ x v, x ≠ d → aget f x = some v → v ∈ ys := fun x v hx hv => (y2 v).mpr (List.mem_map.mpr ⟨(x, v), List.mem_filter.mpr ⟨aget_mem hv, by simp [hx]⟩, rfl⟩)
  have hyl : ys.length ≤ 8 := by
    have nd1 : ys.Nodup := y3.imp fun h e => by omega
    have h1 := nd1.length_le_of_subset fun v hv => (y2 v).mp hv
    rw [List.length_map] at h1
    have := List.length_filter_le (fun p : Str × Int => !(p.1 == d)) f
    omega
  refine Pr.of y1 ?_
  (repeat (exists run1))
  refine Lp.inv (fun i e s => (∃ (F : Dst) (s6 s7 : Sl), e = [.val (netD rs ls), .val (.str a), .val (.str d), .val (tD (tb rs ls)), .val (dS D.int f), .own (dS D.int F), s6, s7, .un] ∧ F.length ≤ 1 + 8 * i ∧ Filled rs ls f F d fun _ v => v ∈ ys.take i) ∧ s = st) ⟨⟨[(d, 1)], .un, .un, rfl, by show 1 ≤ 1; decide, ?_⟩, rfl⟩ ?_ ?_
  · refine ⟨by unfold aget; rw [if_pos rfl], fun x hx => ⟨fun v _ h => absurd h (by simp), fun _ => ?_⟩⟩
    unfold aget
    rw [if_neg (fun e => hx e.symm)]
    rfl
  · rintro i x e s hx ⟨⟨F, s6, s7, rfl, hFl, hF1, hF2⟩, rfl⟩
    rw [List.getElem?_map] at hx
    obtain ⟨v, hv, rfl⟩ := Option.map_eq_some_iff.mp hx
    have hi : i < ys.length := (List.getElem?_eq_some_iff.mp hv).1
    have hlow : ∀ u ∈ ys, u < v → u ∈ ys.take i := fun u hu huv => by
      obtain ⟨j, hj, e⟩ := List.mem_iff_getElem.mp hu
      obtain ⟨_, e2⟩ := List.getElem?_eq_some_iff.mp hv
      have hji : j < i := by
        rcases Nat.lt_or_ge j i with q | q
        · exact q
        · exfalso
          rcases Nat.lt_or_eq_of_le q with q | q
          · have := List.pairwise_iff_getElem.mp y3 i j hi hj q
            omega
          · subst q
            rw [e] at e2
            omega
      rw [← e]
      exact List.mem_take_iff_getElem.mpr ⟨j, by omega, rfl⟩
    have hvn : v ∉ ys.take i := fun hm => by
      obtain ⟨j, hj, e⟩ := List.mem_take_iff_getElem.mp hm
      obtain ⟨_, e2⟩ := List.getElem?_eq_some_iff.mp hv
      have := List.pairwise_iff_getElem.mp y3 j i (by omega) hi (by omega)
      omega
    (repeat (first | exists run1 | refine Ee.routers hN ?_ | refine ⟨_, _, rfl, ?_⟩))
    unfold rsD
    (repeat (exists run1))
    refine Lp.inv (fun j e s' => (∃ (F : Dst) (s7 : Sl), e = [.val (netD rs ls), .val (.str a), .val (.str d), .val (tD (tb rs ls)), .val (dS D.int f), .own (dS D.int F), .val (.int v), s7, .un] ∧ F.length ≤ 1 + 8 * i + j ∧ Filled rs ls f F d fun x u => u ∈ ys.take i ∨ (u = v ∧ x ∈ rs.take j)) ∧ s' = s) ⟨⟨F, s7, rfl, hFl, hF1, fun x hx => ⟨fun u hu h => (hF2 x hx).1 u hu (h.resolve_right fun z => absurd z.2 (by simp)), fun h => (hF2 x hx).2 (h.imp id fun ⟨u, hu, hn⟩ => ⟨u, hu, fun z => hn (.inl z)⟩)⟩⟩, rfl⟩ ?_ ?_
    · rintro j y e s' hy ⟨⟨G, s7', rfl, hGl, hG1, hG2⟩, rfl⟩
      rw [List.getElem?_map] at hy
      obtain ⟨r, hr, rfl⟩ := Option.map_eq_some_iff.mp hy
      have hrr : r ∈ rs := List.mem_of_getElem? hr
      have hj : j < rs.length := (List.getElem?_eq_some_iff.mp hr).1
      have tk : ∀ x, x ∈ rs.take (j + 1) ↔ x ∈ rs.take j ∨ x = r := fun x => by
        rw [List.take_succ, hr, List.mem_append]
        exact or_congr Iff.rfl (by simp)
      have same : (r ≠ d → aget f r ≠ some v) → Filled rs ls f G d fun x u => u ∈ ys.take i ∨ (u = v ∧ x ∈ rs.take (j + 1)) := fun hno => by
        refine ⟨hG1, fun x hxd => ⟨fun u hu h => (hG2 x hxd).1 u hu ?_, fun h => (hG2 x hxd).2 (h.imp id fun ⟨u, hu, hn⟩ => ⟨u, hu, fun z => hn (z.imp id fun z => ⟨z.1, (tk x).mpr (.inl z.2)⟩)⟩)⟩⟩
        rcases h with h | ⟨h, h'⟩
        · exact .inl h
        · rcases (tk x).mp h' with q | q
          · exact .inr ⟨h, q⟩
          · subst q h
            exact absurd hu (hno hxd)
      (repeat (exists run1))
      refine ⟨fun g1 => ?_, fun g1 => ?_⟩
      · have hne : r ≠ d := fun e => by rw [e] at g1; simp at g1
        (repeat (exists run1))
        refine Ee.mcall ?_
        (repeat (exists run1))
        refine ⟨rfl, ?_⟩
        (repeat (exists run1))
        refine pr_getS ?_
        (repeat (exists run1))
        refine pr_eqpl (by cases aget f r <;> rfl) rfl (by cases aget f r <;> exact Nat.zero_le _) (Nat.zero_le _) fun z hz => ?_
        (repeat (exists run1))
        refine ⟨fun g2 => ?_, fun g2 => ?_⟩
        · have hfr : aget f r = some v := by
            have := hz.mp g2
            cases h : aget f r with
            | none => rw [h] at this; cases this
            | some u => rw [h] at this; injection this with this; rw [this]
          have hG : ∀ n ∈ nx rs ls r d, aget G n = some (wayI rs ls d n) := fun n hn => by
            obtain ⟨hnr, u, v', hu, hv', huv⟩ := K05.nx_mem w hd hf hn
            rw [hfr] at hv'
            cases hv'
            by_cases e : n = d
            · subst e
              rw [hG1, wayI_d w]
            · exact (hG2 n e).1 u hu (.inl (hlow u (hys n u e hu) huv))
          (repeat (exists run1))
          refine Ee.comp_map (nx rs ls r d) D.str (fun _ => true) (fun n => .int (wayI rs ls d n)) ?_
          unfold tD
          (repeat (first | exists run1 | refine pr_subP (get_tabs hrr hd) ?_))
          unfold rsD
          (repeat (exists run1))
          refine ⟨rfl, fun n hn => ?_, ?_⟩
          · unfold Cp
            (repeat (exists run1))
            refine ⟨fun _ => ?_, fun h => (by cases h)⟩
            (repeat (first | exists run1 | refine pr_subS (hG n hn) ?_))
            exact ⟨rfl, rfl⟩
          · rw [filter_true]
            have em : (nx rs ls r d).map (fun n => D.int (wayI rs ls d n)) = ((nx rs ls r d).map (wayI rs ls d)).map D.int := by rw [List.map_map]; rfl
            rw [em]
            (repeat (exists run1))
            refine pr_sum (ints_of _) ?_
            rw [← wayI_step w hd hf hfr hne]
            (repeat (exists run1))
            refine pr_putS (vf := D.int) rfl (by rw [sizeLine_eq]; omega) ?_
            refine Trn.nx ⟨⟨aput G r (wayI rs ls d r), .val (.str r), rfl, by have := aput_len (al := G) (k := r) (v := wayI rs ls d r); omega, ?_, fun x hx => ⟨fun u hu h => ?_, fun h => ?_⟩⟩, rfl⟩
            · rw [aget_put, if_neg hne]; exact hG1
            · rw [aget_put]
              by_cases e : r = x
              · subst e; rw [if_pos rfl]
              · rw [if_neg e]
                refine (hG2 x hx).1 u hu ?_
                rcases h with h | ⟨h, h'⟩
                · exact .inl h
                · rcases (tk x).mp h' with q | q
                  · exact .inr ⟨h, q⟩
                  · exact absurd q.symm e
            · rw [aget_put]
              have e : r ≠ x := fun e => by
                subst e
                rcases h with h | ⟨u, hu, hn⟩
                · rw [hfr] at h; cases h
                · rw [hfr] at hu
                  cases hu
                  exact hn (.inr ⟨rfl, (tk r).mpr (.inr rfl)⟩)
              rw [if_neg e]
              exact (hG2 x hx).2 (h.imp id fun ⟨u, hu, hn⟩ => ⟨u, hu, fun z => hn (z.imp id fun z => ⟨z.1, (tk x).mpr (.inl z.2)⟩)⟩)
        · (repeat (exists run1))
          refine ⟨⟨G, .val (.str r), rfl, by omega, same fun _ h => ?_⟩, rfl⟩
          rw [h] at hz
          have := hz.mpr rfl
          rw [g2] at this
          cases this
      · (repeat (exists run1))
        refine ⟨fun h => (by cases h), fun _ => ?_⟩
        (repeat (exists run1))
        refine ⟨⟨G, .val (.str r), rfl, by omega, same fun h => ?_⟩, rfl⟩
        simp [h] at g1
    · rintro e s' ⟨⟨G, s7', rfl, hGl, hG1, hG2⟩, rfl⟩
      rw [List.length_map] at hGl
      rw [List.length_map, List.take_length] at hG2
      have tk : ∀ u, u ∈ ys.take (i + 1) ↔ u ∈ ys.take i ∨ u = v := fun u => by
        rw [List.take_succ, hv, List.mem_append]
        exact or_congr Iff.rfl (by simp)
      refine Trn.nx ⟨⟨G, .val (.int v), s7', rfl, by omega, hG1, fun x hx => ⟨fun u hu h => (hG2 x hx).1 u hu ?_, fun h => (hG2 x hx).2 (h.imp id fun ⟨u, hu, hn⟩ => ⟨u, hu, fun z => hn ((tk u).mpr (z.imp id And.left))⟩)⟩⟩, rfl⟩
      exact ((tk u).mp h).imp id fun q => ⟨q, dis_in w hd hf hu⟩
  · rintro e s ⟨⟨F, s6, s7, rfl, hFl, hF1, hF2⟩, rfl⟩
    rw [List.length_map, List.take_length] at hF2
    (repeat (exists run1))
    refine Ee.mcall ?_
    (repeat (exists run1))
    refine ⟨rfl, ?_⟩
    (repeat (exists run1))
    refine pr_getS2 ?_
    have e : ((aget F a).map D.int).getD (.int 0) = .int (waysI rs ls f d a) := by
      unfold waysI
      by_cases had : a = d
      · subst had
        rw [hF1, hf.zero (lens_pos w)]
        show D.int 1 = .int (wayI rs ls a a)
        rw [wayI_d w]
      · obtain ⟨p1, p2⟩ := hF2 a had
        cases hv : aget f a with
        | none => rw [p2 (.inl hv)]; rfl
        | some v => rw [p1 v hv (hys a v had hv)]; rfl
    rw [e]
    (repeat (exists run1))
    exact k
end Q

set_option Elab.async false
set_option linter.all false
set_option maxRecDepth 100000
set_option maxHeartbeats 1000000
namespace Q
open PySem PySem.Spec PyProof.Rows L2
local macro_rules
  | `(tactic| exists run1) => `(tactic| (first
      | with_reducible refine Ex.seq ?_ | with_reducible refine Ex.set ?_ | with_reducible refine Ex.ret ?_ | with_reducible refine Ex.exp ?_ | with_reducible refine Ex.setOwn ?_ | with_reducible refine Ex.unpack ?_ | with_reducible refine Ex.par ?_ | with_reducible refine Ex.put ?_ | with_reducible refine Ex.app ?_ | with_reducible refine Ex.ext ?_ | with_reducible refine Ex.iff ?_ | with_reducible refine Ex.skip ?_ | with_reducible refine Ex.retN ?_ | with_reducible refine Ex.cont ?_ | with_reducible refine Ex.puts ?_ | with_reducible refine Ex.setA ?_ | with_reducible refine Ex.loop ?_
      | (with_reducible refine Ee.isv ?_; refine Ee.var rfl ?_)
      | with_reducible refine Ee.int ?_ | with_reducible refine Ee.bl ?_ | with_reducible refine Ee.str ?_ | with_reducible refine Ee.non ?_ | with_reducible refine Ee.tup ?_ | with_reducible refine Ee.lst ?_ | with_reducible refine Ee.bin ?_ | with_reducible refine Ee.neg ?_ | with_reducible refine Ee.cmp ?_ | with_reducible refine Ee.chain ?_ | with_reducible refine Ee.and ?_ | with_reducible refine Ee.or ?_ | with_reducible refine Ee.not ?_ | with_reducible refine Ee.ife ?_ | with_reducible refine Ee.sub ?_ | with_reducible refine Ee.slice ?_ | with_reducible refine Ee.rev ?_ | with_reducible refine Ee.sortset ?_ | with_reducible refine Ee.isi ?_ | with_reducible refine Ee.blt ?_ | with_reducible refine Ee.dct ?_ | with_reducible refine Ee.dnewT ?_ | with_reducible refine Ee.dnewK ?_
      | with_reducible refine El.cons ?_ | with_reducible refine El.nil ?_ | with_reducible refine Ep.nil ?_ | with_reducible refine Ep.val ?_ | with_reducible refine Ep.own ?_ | with_reducible refine Eo.no ?_ | with_reducible refine Eo.yes ?_ | with_reducible refine Eb.no ?_ | with_reducible refine Eb.yes ?_
      | with_reducible refine Ei.exv ?_ | with_reducible refine Ei.ex rfl ?_ | with_reducible refine Ei.rng1 ?_ | with_reducible refine Ei.rng2 ?_ | with_reducible refine Ei.enum ?_ | with_reducible refine Ei.zip ?_
      | with_reducible refine Aft.nx ?_ | with_reducible refine Aft.rt ?_ | with_reducible refine Aft.ct ?_ | with_reducible refine Trn.nx ?_ | with_reducible refine Trn.rt ?_ | with_reducible refine Trn.ct ?_ | with_reducible refine Fin.rt ?_ | with_reducible refine Fin.nx ?_
      | with_reducible refine Ts.mk ?_ | with_reducible refine Pt.mk ?_ | with_reducible refine exb ?_ | with_reducible refine exi ?_ | with_reducible refine exii ?_
      | with_reducible refine pr_add ?_ | with_reducible refine pr_sub ?_ | with_reducible refine pr_gt ?_ | with_reducible refine pr_le ?_ | with_reducible refine pr_ge ?_ | with_reducible refine pr_lt ?_ | with_reducible refine pr_lts ?_ | with_reducible refine pr_eqi ?_ | with_reducible refine pr_nei ?_ | with_reducible refine pr_eqs ?_ | with_reducible refine pr_nes ?_ | with_reducible refine pr_eqb ?_ | with_reducible refine pr_in ?_ | with_reducible refine pr_nin ?_
      | with_reducible refine pr_len_l ?_ | with_reducible refine pr_len_t ?_ | with_reducible refine pr_len_r ?_ | with_reducible refine pr_len_k ?_ | with_reducible refine pr_abs ?_ | with_reducible refine pr_max ?_ | with_reducible refine pr_min ?_ | with_reducible refine pr_int ?_ | with_reducible refine pr_intb ?_ | with_reducible refine pr_tup_l ?_ | with_reducible refine pr_list_l ?_ | with_reducible refine pr_list_t ?_ | with_reducible refine pr_sorted ?_ | with_reducible refine pr_repr ?_
      | with_reducible refine pr_items_l ?_ | with_reducible refine pr_items_t ?_ | with_reducible refine pr_keys_l ?_ | with_reducible refine pr_keys_t ?_ | with_reducible refine pr_keys_k ?_ | with_reducible refine pr_keys_kt ?_ | with_reducible refine pr_sl_l ?_ | with_reducible refine pr_sl_t ?_ | with_reducible refine pr_rev ?_ | with_reducible refine pr_bind1 ?_ | with_reducible refine pr_binds1 ?_
      | (with_reducible refine pr_cell (by assumption) ?_ ?_; exact rfl)
      | rw [sF_vals rfl]))
namespace K04
section
variable {B : Int} {rs : List Str} {ls : List Lk} {d : Str} {f : Dst}
theorem sum_ge {α : Type} {g : α → Nat} : ∀ {l : List α} {x : α}, x ∈ l → g x ≤ (l.map g).sum
  | y :: l, x, h => by
    rw [List.map_cons, List.sum_cons]
    rcases List.mem_cons.mp h with e | e
    · subst e; omega
    · have := sum_ge (g := g) e; omega
theorem way_pos (w : IsW B rs ls) (hd : d ∈ rs) (hf : Dis (lensOf ls) d f) : ∀ (n : Nat) (x : Str) (v : Int), aget f x = some v → K05.nearer rs f v < n → 1 ≤ wayN (fun a => nx rs ls a d) d n x
  | 0, _, _, _, h => by omega
  | n + 1, x, v, hv, hn => by
    unfold wayN
    by_cases e : x = d
    · rw [if_pos e]; exact Nat.le_refl 1
    · rw [if_neg e]
      obtain ⟨b, hb⟩ := List.exists_mem_of_ne_nil _ (K05.nx_ne w hd hf hv e)
      obtain ⟨hbr, u, v', hu, hv', huv⟩ := K05.nx_mem w hd hf hb
      rw [hv] at hv'
      cases hv'
      have h1 := K05.nearer_lt hbr hu huv
      have h2 := way_pos w hd hf n b u hu (by omega)
      exact Nat.le_trans h2 (sum_ge (g := wayN (fun a => nx rs ls a d) d n) hb)
theorem sums_le (w : IsW B rs ls) (hB : 0 ≤ B) : ∀ (n : Nat) (pre : List Str) (x : Str) (t z : Int), z ∈ sums (lensOf ls) rs d n pre x t → z ≤ t + B * n
  | 0, _, _, _, _, h => by cases h
  | n + 1, pre, x, t, z, h => by
    unfold sums at h
    have hm : 0 ≤ B * (n : Int) := Int.mul_nonneg hB (by omega)
    have hs : B * ((n + 1 : Nat) : Int) = B * (n : Int) + B := by rw [Int.natCast_add, Int.mul_add]; omega
    by_cases e : x = d
    · rw [if_pos e] at h
      have : z = t := by simpa using h
      omega
    · rw [if_neg e] at h
      obtain ⟨b, hb, hz⟩ := List.mem_flatMap.mp h
      have ih := sums_le w hB n _ b _ z hz
      unfold kids at hb
      rw [List.mem_filter, Bool.and_eq_true] at hb
      obtain ⟨wt, hw⟩ := Option.isSome_iff_exists.mp hb.2.2
      have h1 := lens_le w _ (aget_mem hw)
      simp only at h1
      have : stp (lensOf ls) x b = wt := by unfold stp; rw [hw]; rfl
      omega
end
/-- the law's due -/
def dueD (ys : List Int) : D := match ys with
  | [] => .tup [.non, .int 0]
  | y :: r => .tup [.int y, .int ((y :: r).filter (· == y)).length]
theorem due_eq {B : Int} {rs : List Str} {ls : List Lk} (w : IsW B rs ls) (hB : 0 ≤ B) (hB2 : B ≤ 1000000) {a d : Str} (ha : a ∈ rs) (hd : d ∈ rs) {ys : List Int} (hp : ys.Perm (sums (lensOf ls) rs d rs.length [] a 0)) (hs : ys.Pairwise (· ≤ ·)) (hl : ys.length ≤ 200000) :
    dueD ys = .tup [optI (aget (distOf rs.length (lensOf ls) d) a), .int (waysI rs ls (distOf rs.length (lensOf ls) d) d a)] ∧ rpD (dueD ys) = true ∧ wtD (dueD ys) ≤ 2 ^ 20 ∧ dpD (dueD ys) ≤ 60 := by
  have hf := dis_prog w hd
  have h2 := w.two
  have h8 := w.eight
  generalize distOf rs.length (lensOf ls) d = f at hf
  cases hv : aget f a with
  | none =>
    have : ys = [] := by
      cases ys with
      | nil => rfl
      | cons y r =>
        obtain ⟨v, h1, _⟩ := sums_ge w hf _ _ _ _ y (hp.mem_iff.mp (List.mem_cons_self ..))
        rw [hv] at h1
        cases h1
    subst this
    refine ⟨?_, rfl, by decide, by decide⟩
    unfold waysI
    rw [hv]; rfl
  | some v =>
    have hn := K05.nearer_le ha hv
    have hc := sums_count w hd hf rs.length [] a 0 v hv (fun y hy => absurd hy List.not_mem_nil) (by omega)
    have hw1 := way_pos w hd hf rs.length a v hv (by omega)
    rw [Int.zero_add] at hc
    have hmem : v ∈ sums (lensOf ls) rs d rs.length [] a 0 := List.count_pos_iff.mp (by omega)
    have hbd := sums_le w hB _ _ _ _ _ hmem
    have h0 := hf.nonneg (lens_pos w) hv
    have hpc : ys.count v = wayN (fun a => nx rs ls a d) d rs.length a := hp.count_eq v ▸ hc
    cases ys with
    | nil => exact absurd (hp.mem_iff.mpr hmem) List.not_mem_nil
    | cons y r =>
      have hy : y = v := by
        obtain ⟨u, h1, h3⟩ := sums_ge w hf _ _ _ _ y (hp.mem_iff.mp (List.mem_cons_self ..))
        rw [hv] at h1
        cases h1
        rcases List.mem_cons.mp (hp.mem_iff.mpr hmem) with e | e
        · exact e.symm
        · have := (List.pairwise_cons.mp hs).1 v e
          omega
      subst hy
      have hlen : ((y :: r).filter (· == y)).length = wayN (fun a => nx rs ls a d) d rs.length a := by
        rw [← hpc, List.count_eq_length_filter]
      have hlen2 : ((y :: r).filter (· == y)).length ≤ 200000 := Nat.le_trans (List.length_filter_le _ _) hl
      refine ⟨?_, ?_, ?_, by show 1 ≤ 60; decide⟩
      · unfold dueD waysI wayI
        rw [hv]
        dsimp only
        rw [hlen]
        rfl
      · show (decide (y.natAbs < 10 ^ 12) && (decide ((((y :: r).filter (· == y)).length : Int).natAbs < 10 ^ 12) && true)) = true
        have hb8 : B * (rs.length : Int) ≤ 1000000 * 8 := Int.mul_le_mul hB2 (by omega) (by omega) (by decide)
        rw [decide_eq_true (by omega), decide_eq_true (by omega)]
        rfl
      · show 41 + 1 + (41 + 1 + 0) ≤ 2 ^ 20
        decide
set_option maxHeartbeats 8000000 in
theorem fine_ok {T : Tab} (h1 : Has T "_law_world" P_world) (h2 : Has T "_law_made" P_made) (h3 : Has T "_law_lengths" P_llens) (h4 : Has T "_law_sums" P_sums) (h5 : Has T "distance" P_distance) (h6 : Has T "ways" P_ways) : P_fine (den T N__law_fine 1 c__law_fine) := by
  intro st c Q hp k
  refine Cl.den rfl (i__law_fine _) ?_
  unfold c__law_fine
  (repeat (exists run1))
  refine Ee.callH h1 fun m1 hm1 => ?_
  (repeat (exists run1))
  refine hm1 _ c 0 2 6 6 _ hp (by decide) (by decide) (by decide) (by decide) (by decide) fun rs ls s1 w _ hr6 hn1 => ?_
  (repeat (exists run1))
  refine Ee.callH h2 fun m2 hm2 => ?_
  (repeat (exists run1))
  refine hm2 _ 90 rs ls _ w ?_
  (repeat (exists run1))
  refine Ee.callH h3 fun m3 hm3 => ?_
  unfold worldD
  (repeat (first | exists run1 | refine pr_subt rfl ?_))
  refine hm3 _ 90 rs ls _ w ?_
  (repeat (exists run1))
  refine ⟨rfl, ?_⟩
  (repeat (first | exists run1 | refine pr_subt rfl ?_))
  unfold rsD
  (repeat (exists run1))
  refine Lp.inv (fun i e s => (∃ s2 s5 s6 s7, e = [.val (.cell c), .val (worldD rs ls), s2, .val (netD rs ls), .val (lD (lensOf ls)), s5, s6, s7, .un]) ∧ s = s1) ⟨⟨.un, .un, .un, .un, rfl⟩, rfl⟩ ?_ ?_
  · rintro i x e s hx ⟨⟨s2, s5, s6, s7, rfl⟩, rfl⟩
    rw [List.getElem?_map] at hx
    obtain ⟨a, ha, rfl⟩ := Option.map_eq_some_iff.mp hx
    have har : a ∈ rs := List.mem_of_getElem? ha
    unfold worldD
    (repeat (first | exists run1 | refine pr_subt rfl ?_))
    unfold rsD
    (repeat (exists run1))
    refine Lp.inv (fun j e s' => (∃ s5 s6 s7, e = [.val (.cell c), .val (worldD rs ls), .val (.str a), .val (netD rs ls), .val (lD (lensOf ls)), s5, s6, s7, .un]) ∧ s' = s) ⟨⟨s5, s6, s7, rfl⟩, rfl⟩ ?_ ?_
    · rintro j y e s' hy ⟨⟨s5', s6', s7', rfl⟩, rfl⟩
      rw [List.getElem?_map] at hy
      obtain ⟨d, hd, rfl⟩ := Option.map_eq_some_iff.mp hy
      have hdr : d ∈ rs := List.mem_of_getElem? hd
      (repeat (exists run1))
      refine Ee.callH h4 fun m4 hm4 => ?_
      unfold worldD
      (repeat (first | exists run1 | refine pr_subt rfl ?_))
      refine hm4 _ 90 rs ls a d _ w hr6 har hdr fun zs hzs hzl => ?_
      obtain ⟨ys, y1, y2, y3⟩ := sort_ints zs
      (repeat (exists run1))
      refine Pr.of y1 ?_
      (repeat (exists run1))
      refine ⟨rfl, ?_⟩
      obtain ⟨de, d1, d2, d3⟩ := due_eq w (by decide) (by decide) har hdr (y2.trans hzs) y3 (y2.length_eq ▸ hzl)
      have plY : plD (.lst (ys.map D.int)) = true := plL_all.mpr fun x hx => by
        obtain ⟨v, _, rfl⟩ := List.mem_map.mp hx
        rfl
      have dpY : dpD (.lst (ys.map D.int)) ≤ 60 := by
        have : dpL (ys.map D.int) ≤ 0 := dpL_le.mpr fun x hx => by
          obtain ⟨v, _, rfl⟩ := List.mem_map.mp hx
          exact Nat.le_refl 0
        show dpL (ys.map D.int) + 1 ≤ 60
        omega
      (repeat (exists run1))
      refine pr_nepl plY rfl dpY (by show 1 ≤ 60; decide) fun z hz => ?_
      (repeat (exists run1))
      refine ⟨fun g => ?_, fun g => ?_⟩
      · obtain ⟨y, r, rfl⟩ : ∃ y r, ys = y :: r := by
          cases ys with
          | nil =>
            have := hz.mpr rfl
            rw [g] at this
            cases this
          | cons y r => exact ⟨y, r, rfl⟩
        have hat : atI ((y :: r).map D.int) 0 = some (.int y) := by rw [show (0 : Int) = ((0 : Nat) : Int) from rfl, atI_nat]; rfl
        (repeat (first | exists run1 | refine pr_subl hat ?_))
        refine Ee.comp_map (y :: r) D.int (fun v => v == y) D.int ?_
        (repeat (exists run1))
        refine ⟨rfl, fun v hv => ?_, ?_⟩
        · unfold Cp
          (repeat (first | exists run1 | refine pr_subl hat ?_))
          refine ⟨fun g2 => ?_, fun g2 => ?_⟩
          · (repeat (exists run1))
            exact ⟨by rw [g2]; rfl, rfl⟩
          · exact ⟨by rw [g2]; rfl, rfl⟩
        (repeat (exists run1))
        rw [List.length_map]
        refine Ee.callH h5 fun m5 hm5 => ?_
        (repeat (exists run1))
        refine hm5 _ 90 rs ls a d _ w har hdr ?_
        (repeat (exists run1))
        refine Ee.callH h6 fun m6 hm6 => ?_
        (repeat (exists run1))
        refine hm6 _ 90 rs ls a d _ w har hdr ?_
        (repeat (exists run1))
        rw [← de]
        refine pr_reprs d1 d2 d3 fun zr hzr => ?_
        (repeat (exists run1))
        refine Pr.of hzr ?_
        (repeat (exists run1))
        rw [beq_self_eq_true]
        refine ⟨fun h => (by cases h), fun _ => ?_⟩
        (repeat (exists run1))
        exact ⟨⟨_, _, _, rfl⟩, rfl⟩
      · have hy0 : ys = [] := by
          have he := hz.mp g
          injection he with he
          exact List.map_eq_nil_iff.mp he
        subst hy0
        (repeat (exists run1))
        refine Ee.callH h5 fun m5 hm5 => ?_
        (repeat (exists run1))
        refine hm5 _ 90 rs ls a d _ w har hdr ?_
        (repeat (exists run1))
        refine Ee.callH h6 fun m6 hm6 => ?_
        (repeat (exists run1))
        refine hm6 _ 90 rs ls a d _ w har hdr ?_
        (repeat (exists run1))
        rw [← de]
        refine pr_reprs d1 d2 d3 fun zr hzr => ?_
        (repeat (exists run1))
        refine Pr.of hzr ?_
        (repeat (exists run1))
        rw [beq_self_eq_true]
        refine ⟨fun h => (by cases h), fun _ => ?_⟩
        (repeat (exists run1))
        exact ⟨⟨_, _, _, rfl⟩, rfl⟩
    · rintro e s' ⟨⟨s5', s6', s7', rfl⟩, rfl⟩
      exact Trn.nx ⟨⟨_, _, _, _, rfl⟩, rfl⟩
  · rintro e s ⟨⟨s2, s5, s6, s7, rfl⟩, rfl⟩
    (repeat (exists run1))
    exact k _ _ hn1
end K04
end Q

set_option Elab.async false
set_option linter.all false
set_option maxRecDepth 100000
set_option maxHeartbeats 0
namespace Q
open PySem PySem.Spec PyProof.Rows L2
namespace K04
open He
def top (i : Nat) : Stmt := PySem.Challenge.pw_quietturns_k04_distances_by_all_ways.main.body.getD i (.Pass ⟨0, 0, 0, 0⟩)
def d0 : DefP := ⟨fun K => ga K "is_integer", "is_integer", "is_integer", defArgs (top 9), defBody (top 9), defScope (top 9)⟩
def d1 : DefP := ⟨fun K => ga K "is_from", "is_from", "is_from", defArgs (top 10), defBody (top 10), defScope (top 10)⟩
def d2 : DefP := ⟨fun K => ga K "is_name", "is_name", "is_name", defArgs (top 11), defBody (top 11), defScope (top 11)⟩
def d3 : DefP := ⟨fun K => ga K "is_one_of", "is_one_of", "is_one_of", defArgs (top 12), defBody (top 12), defScope (top 12)⟩
def d4 : DefP := ⟨fun K => ga K "is_tuple_of", "is_tuple_of", "is_tuple_of", defArgs (top 13), defBody (top 13), defScope (top 13)⟩
def d5 : DefP := ⟨fun K => ga K "is_tuple_to", "is_tuple_to", "is_tuple_to", defArgs (top 14), defBody (top 14), defScope (top 14)⟩
def d6 : DefP := ⟨fun K => ga K "are_ascending", "are_ascending", "are_ascending", defArgs (top 15), defBody (top 15), defScope (top 15)⟩
def d7 : DefP := ⟨fun K => ga K "is_ascending_of", "is_ascending_of", "is_ascending_of", defArgs (top 16), defBody (top 16), defScope (top 16)⟩
def d8 : DefP := ⟨fun K => ga K "are_routers", "are_routers", "are_routers", defArgs (top 22), defBody (top 22), defScope (top 22)⟩
def d9 : DefP := ⟨fun K => ga K "is_link", "is_link", "is_link", defArgs (top 23), defBody (top 23), defScope (top 23)⟩
def d10 : DefP := ⟨fun K => ga K "are_links", "are_links", "are_links", defArgs (top 24), defBody (top 24), defScope (top 24)⟩
def d11 : DefP := ⟨fun K => ma K (ga K "Net") "__init__", "__init__", "Net.__init__", defArgs (clsAt (top 25) 0), defBody (clsAt (top 25) 0), defScope (clsAt (top 25) 0)⟩
def d12 : DefP := ⟨fun K => gpA K "Net" "routers", "routers", "Net.routers", defArgs (clsAt (top 25) 1), defBody (clsAt (top 25) 1), defScope (clsAt (top 25) 1)⟩
def d13 : DefP := ⟨fun K => gpA K "Net" "links", "links", "Net.links", defArgs (clsAt (top 25) 2), defBody (clsAt (top 25) 2), defScope (clsAt (top 25) 2)⟩
def d14 : DefP := ⟨fun K => ga K "check_routers", "check_routers", "check_routers", defArgs (top 26), defBody (top 26), defScope (top 26)⟩
def d15 : DefP := ⟨fun K => ga K "lengths_of", "lengths_of", "lengths_of", defArgs (top 28), defBody (top 28), defScope (top 28)⟩
def d16 : DefP := ⟨fun K => ga K "distances_to", "distances_to", "distances_to", defArgs (top 30), defBody (top 30), defScope (top 30)⟩
def d17 : DefP := ⟨fun K => ga K "nexts_by", "nexts_by", "nexts_by", defArgs (top 31), defBody (top 31), defScope (top 31)⟩
def d18 : DefP := ⟨fun K => ga K "tables_by", "tables_by", "tables_by", defArgs (top 32), defBody (top 32), defScope (top 32)⟩
def d19 : DefP := ⟨fun K => ga K "next_tables", "next_tables", "next_tables", defArgs (top 33), defBody (top 33), defScope (top 33)⟩
def d20 : DefP := ⟨fun K => ga K "distance", "distance", "distance", defArgs (top 34), defBody (top 34), defScope (top 34)⟩
def d21 : DefP := ⟨fun K => ga K "ways", "ways", "ways", defArgs (top 35), defBody (top 35), defScope (top 35)⟩
def d22 : DefP := ⟨fun K => ga K "_law_pot", "_law_pot", "_law_pot", defArgs (top 37), defBody (top 37), defScope (top 37)⟩
def d23 : DefP := ⟨fun K => ga K "_law_take", "_law_take", "_law_take", defArgs (top 38), defBody (top 38), defScope (top 38)⟩
def d24 : DefP := ⟨fun K => ga K "_law_pots", "_law_pots", "_law_pots", defArgs (top 39), defBody (top 39), defScope (top 39)⟩
def d25 : DefP := ⟨fun K => ga K "_law_of", "_law_of", "_law_of", defArgs (top 40), defBody (top 40), defScope (top 40)⟩
def d26 : DefP := ⟨fun K => ga K "_law_turned", "_law_turned", "_law_turned", defArgs (top 41), defBody (top 41), defScope (top 41)⟩
def d27 : DefP := ⟨fun K => ga K "_law_names", "_law_names", "_law_names", defArgs (top 42), defBody (top 42), defScope (top 42)⟩
def d28 : DefP := ⟨fun K => ga K "_law_far", "_law_far", "_law_far", defArgs (top 43), defBody (top 43), defScope (top 43)⟩
def d29 : DefP := ⟨fun K => ga K "_law_pairs", "_law_pairs", "_law_pairs", defArgs (top 44), defBody (top 44), defScope (top 44)⟩
def d30 : DefP := ⟨fun K => ga K "_law_world", "_law_world", "_law_world", defArgs (top 45), defBody (top 45), defScope (top 45)⟩
def d31 : DefP := ⟨fun K => ga K "_law_made", "_law_made", "_law_made", defArgs (top 46), defBody (top 46), defScope (top 46)⟩
def d32 : DefP := ⟨fun K => ga K "_law_lengths", "_law_lengths", "_law_lengths", defArgs (top 47), defBody (top 47), defScope (top 47)⟩
def d33 : DefP := ⟨fun K => ga K "_law_sums", "_law_sums", "_law_sums", defArgs (top 48), defBody (top 48), defScope (top 48)⟩
def d34 : DefP := ⟨fun K => ga K "_law_fine", "_law_fine", "_law_fine", defArgs (top 49), defBody (top 49), defScope (top 49)⟩
def d35 : DefP := ⟨fun K => ga K "law", "law", "law", defArgs (top 50), defBody (top 50), defScope (top 50)⟩
def fn : List DefP := [d0, d1, d2, d3, d4, d5, d6, d7, d8, d9, d10, d11, d12, d13, d14, d15, d16, d17, d18, d19, d20, d21, d22, d23, d24, d25, d26, d27, d28, d29, d30, d31, d32, d33, d34, d35]
def fa1 : List Fa := [.str "LETTERS" alpha, .int "LONGEST_NAME" 8, .int "FEWEST_ROUTERS" 2, .int "MOST_ROUTERS" 8, .int "MOST_LINKS" 16, .int "LINK" 4, .cls "Net", .noat "Net" "own_routers", .noat "Net" "own_links", .mkr "Net", .glo "is_integer", .glo "is_from", .glo "is_name", .glo "is_one_of", .glo "is_tuple_of", .glo "is_tuple_to", .glo "are_ascending", .glo "is_ascending_of", .glo "are_routers", .glo "is_link", .glo "are_links", .glo "Net", .glo "check_routers", .glo "lengths_of", .glo "distances_to", .glo "nexts_by", .glo "tables_by", .glo "next_tables", .glo "distance", .glo "ways", .glo "_law_pot", .glo "_law_take", .glo "_law_pots", .glo "_law_of", .glo "_law_turned", .glo "_law_names", .glo "_law_far", .glo "_law_pairs", .glo "_law_world", .glo "_law_made", .glo "_law_lengths", .glo "_law_sums", .glo "_law_fine", .glo "law"]
def fa : List Fa := fa1 ++ (bnames ++ bnames2).map Fa.free
def pr : List (Str × Str) := [("Net", "routers"), ("Net", "links")]
abbrev R : PySem.W.OpenRow := PySem.W.OpenLaw.row PySem.Challenge.rw_quietturns_k04_distances_by_all_ways
abbrev hk : PySem.W.Hook := hookP 5 fa pr fn
def ob (s : PySem.W.SharedT) : AlD := obsPG 5 fa pr fn (HandSHeadRun.getT s)
theorem ob_eq (s : PySem.W.SharedT) : ob s = hk.obs s.abs := obsPG_eq (HandSHeadRun.getT_eq s)
def loose_0 : List Str := ["_wall", "__name__", "NetError", "BadNet", "NoRouter", "NoLink", "LETTERS", "LONGEST_NAME", "is_integer", "is_from", "is_name", "is_one_of"]
def loose_1 : List Str := ["is_tuple_of", "is_tuple_to", "are_ascending", "is_ascending_of", "FEWEST_ROUTERS", "MOST_ROUTERS", "MOST_LINKS", "LINK", "are_routers", "is_link", "are_links", "Net"]
def loose_2 : List Str := ["check_routers", "link_of", "lengths_of", "distances_to", "nexts_by", "tables_by", "next_tables", "distance", "ways", "_law_pot", "_law_take", "_law_pots"]
def loose_3 : List Str := ["_law_of", "_law_turned", "_law_names", "_law_far", "_law_pairs", "_law_world", "_law_made", "_law_lengths", "_law_sums", "_law_fine"]
def loose : List Str := loose_0 ++ loose_1 ++ loose_2 ++ loose_3
theorem run (w : World) : HandSHeadRun.RunEq R (PySem.W.view R.prog [50]) hk ob 3000 loose w := by
  intro os
  kernel_rfl
def C0 : Str → Option D := fun x => if x = "LETTERS" then some (.str alpha) else if x = "LONGEST_NAME" then some (.int 8) else if x = "FEWEST_ROUTERS" then some (.int 2) else if x = "MOST_ROUTERS" then some (.int 8) else if x = "MOST_LINKS" then some (.int 16) else if x = "LINK" then some (.int 4) else none
def F0 : Str → List Str := fun c => if c = "Net" then ["own_routers", "own_links"] else []
def T0 : Tab := ⟨fun _ => none, C0, F0, fun _ _ => none, fun _ _ => none⟩
structure B1 (T : Tab) : Prop where
  con : T.con = C0
  fld : T.fld = F0
structure B2 (T : Tab) : Prop where
  con : T.con = C0
  fld : T.fld = F0
  r : HasP T "Net" "routers" P_getR
structure B3 (T : Tab) : Prop where
  con : T.con = C0
  net : NetT T
theorem B1.add (T : Tab) (x : Str) (m : FS) (h : B1 T) : B1 (T.add x m) := ⟨h.con, h.fld⟩
theorem B3.add (T : Tab) (x : Str) (m : FS) (h : B3 T) : B3 (T.add x m) := ⟨h.con, h.net.add⟩
theorem F0_net : F0 "Net" = ([("own_routers" : Str), ("own_links" : Str)] : List Str) := by unfold F0; rw [if_pos rfl]
theorem C0_LETTERS : C0 "LETTERS" = some (.str alpha) := by kernel_rfl
theorem C0_LONGEST_NAME : C0 "LONGEST_NAME" = some (.int 8) := by kernel_rfl
theorem C0_FEWEST_ROUTERS : C0 "FEWEST_ROUTERS" = some (.int 2) := by kernel_rfl
theorem C0_MOST_ROUTERS : C0 "MOST_ROUTERS" = some (.int 8) := by kernel_rfl
theorem C0_MOST_LINKS : C0 "MOST_LINKS" = some (.int 16) := by kernel_rfl
theorem C0_LINK : C0 "LINK" = some (.int 4) := by kernel_rfl
theorem s0 : FnScope N_is_integer ["value"] (defScope (top 9)) := ⟨by kernel_rfl, by kernel_rfl, by kernel_rfl, by decide +kernel, by kernel_rfl, by decide +kernel, by decide +kernel⟩
theorem t0 : compSs (compS h_is_integer (defScope (top 9)) N_is_integer 200) (defBody (top 9)) = some c_is_integer := by kernel_rfl
theorem b0 {K : PySem.W.Frag} {f : Addr} {fd : FuncData} (F : FunD K "is_integer" "is_integer" (defArgs (top 9)) (defBody (top 9)) (defScope (top 9)) [] [] f fd) : Binds K fd ["value"] [] := F.bindsN fun _ _ _ _ _ _ us hl => match us, hl with | [_], _ => rfl
theorem s1 : FnScope N_is_from ["value", "least"] (defScope (top 10)) := ⟨by kernel_rfl, by kernel_rfl, by kernel_rfl, by decide +kernel, by kernel_rfl, by decide +kernel, by decide +kernel⟩
theorem t1 : compSs (compS h_is_from (defScope (top 10)) N_is_from 200) (defBody (top 10)) = some c_is_from := by kernel_rfl
theorem b1 {K : PySem.W.Frag} {f : Addr} {fd : FuncData} (F : FunD K "is_from" "is_from" (defArgs (top 10)) (defBody (top 10)) (defScope (top 10)) [] [] f fd) : Binds K fd ["value", "least"] [] := F.bindsN fun _ _ _ _ _ _ us hl => match us, hl with | [_, _], _ => rfl
theorem s2 : FnScope N_is_name ["value"] (defScope (top 11)) := ⟨by kernel_rfl, by kernel_rfl, by kernel_rfl, by decide +kernel, by kernel_rfl, by decide +kernel, by decide +kernel⟩
theorem t2 : compSs (compS h_is_name (defScope (top 11)) N_is_name 200) (defBody (top 11)) = some c_is_name := by kernel_rfl
theorem b2 {K : PySem.W.Frag} {f : Addr} {fd : FuncData} (F : FunD K "is_name" "is_name" (defArgs (top 11)) (defBody (top 11)) (defScope (top 11)) [] [] f fd) : Binds K fd ["value"] [] := F.bindsN fun _ _ _ _ _ _ us hl => match us, hl with | [_], _ => rfl
theorem s3 : FnScope N_is_one_of ["value", "some"] (defScope (top 12)) := ⟨by kernel_rfl, by kernel_rfl, by kernel_rfl, by decide +kernel, by kernel_rfl, by decide +kernel, by decide +kernel⟩
theorem t3 : compSs (compS h_is_one_of (defScope (top 12)) N_is_one_of 200) (defBody (top 12)) = some c_is_one_of := by kernel_rfl
theorem b3 {K : PySem.W.Frag} {f : Addr} {fd : FuncData} (F : FunD K "is_one_of" "is_one_of" (defArgs (top 12)) (defBody (top 12)) (defScope (top 12)) [] [] f fd) : Binds K fd ["value", "some"] [] := F.bindsN fun _ _ _ _ _ _ us hl => match us, hl with | [_, _], _ => rfl
theorem s4 : FnScope N_is_tuple_of ["value", "many"] (defScope (top 13)) := ⟨by kernel_rfl, by kernel_rfl, by kernel_rfl, by decide +kernel, by kernel_rfl, by decide +kernel, by decide +kernel⟩
theorem t4 : compSs (compS h_is_tuple_of (defScope (top 13)) N_is_tuple_of 200) (defBody (top 13)) = some c_is_tuple_of := by kernel_rfl
theorem b4 {K : PySem.W.Frag} {f : Addr} {fd : FuncData} (F : FunD K "is_tuple_of" "is_tuple_of" (defArgs (top 13)) (defBody (top 13)) (defScope (top 13)) [] [] f fd) : Binds K fd ["value", "many"] [] := F.bindsN fun _ _ _ _ _ _ us hl => match us, hl with | [_, _], _ => rfl
theorem s5 : FnScope N_is_tuple_to ["value", "most"] (defScope (top 14)) := ⟨by kernel_rfl, by kernel_rfl, by kernel_rfl, by decide +kernel, by kernel_rfl, by decide +kernel, by decide +kernel⟩
theorem t5 : compSs (compS h_is_tuple_to (defScope (top 14)) N_is_tuple_to 200) (defBody (top 14)) = some c_is_tuple_to := by kernel_rfl
theorem b5 {K : PySem.W.Frag} {f : Addr} {fd : FuncData} (F : FunD K "is_tuple_to" "is_tuple_to" (defArgs (top 14)) (defBody (top 14)) (defScope (top 14)) [] [] f fd) : Binds K fd ["value", "most"] [] := F.bindsN fun _ _ _ _ _ _ us hl => match us, hl with | [_, _], _ => rfl
theorem s6 : FnScope N_are_ascending ["things"] (defScope (top 15)) := ⟨by kernel_rfl, by kernel_rfl, by kernel_rfl, by decide +kernel, by kernel_rfl, by decide +kernel, by decide +kernel⟩
theorem t6 : compSs (compS h_are_ascending (defScope (top 15)) N_are_ascending 200) (defBody (top 15)) = some c_are_ascending := by kernel_rfl
theorem b6 {K : PySem.W.Frag} {f : Addr} {fd : FuncData} (F : FunD K "are_ascending" "are_ascending" (defArgs (top 15)) (defBody (top 15)) (defScope (top 15)) [] [] f fd) : Binds K fd ["things"] [] := F.bindsN fun _ _ _ _ _ _ us hl => match us, hl with | [_], _ => rfl
theorem s7 : FnScope N_is_ascending_of ["value", "some"] (defScope (top 16)) := ⟨by kernel_rfl, by kernel_rfl, by kernel_rfl, by decide +kernel, by kernel_rfl, by decide +kernel, by decide +kernel⟩
theorem t7 : compSs (compS h_is_ascending_of (defScope (top 16)) N_is_ascending_of 200) (defBody (top 16)) = some c_is_ascending_of := by kernel_rfl
theorem b7 {K : PySem.W.Frag} {f : Addr} {fd : FuncData} (F : FunD K "is_ascending_of" "is_ascending_of" (defArgs (top 16)) (defBody (top 16)) (defScope (top 16)) [] [] f fd) : Binds K fd ["value", "some"] [] := F.bindsN fun _ _ _ _ _ _ us hl => match us, hl with | [_, _], _ => rfl
theorem s8 : FnScope N_are_routers ["value"] (defScope (top 22)) := ⟨by kernel_rfl, by kernel_rfl, by kernel_rfl, by decide +kernel, by kernel_rfl, by decide +kernel, by decide +kernel⟩
theorem t8 : compSs (compS h_are_routers (defScope (top 22)) N_are_routers 200) (defBody (top 22)) = some c_are_routers := by kernel_rfl
theorem b8 {K : PySem.W.Frag} {f : Addr} {fd : FuncData} (F : FunD K "are_routers" "are_routers" (defArgs (top 22)) (defBody (top 22)) (defScope (top 22)) [] [] f fd) : Binds K fd ["value"] [] := F.bindsN fun _ _ _ _ _ _ us hl => match us, hl with | [_], _ => rfl
theorem s9 : FnScope N_is_link ["value", "routers"] (defScope (top 23)) := ⟨by kernel_rfl, by kernel_rfl, by kernel_rfl, by decide +kernel, by kernel_rfl, by decide +kernel, by decide +kernel⟩
theorem t9 : compSs (compS h_is_link (defScope (top 23)) N_is_link 200) (defBody (top 23)) = some c_is_link := by kernel_rfl
theorem b9 {K : PySem.W.Frag} {f : Addr} {fd : FuncData} (F : FunD K "is_link" "is_link" (defArgs (top 23)) (defBody (top 23)) (defScope (top 23)) [] [] f fd) : Binds K fd ["value", "routers"] [] := F.bindsN fun _ _ _ _ _ _ us hl => match us, hl with | [_, _], _ => rfl
theorem s10 : FnScope N_are_links ["value", "routers"] (defScope (top 24)) := ⟨by kernel_rfl, by kernel_rfl, by kernel_rfl, by decide +kernel, by kernel_rfl, by decide +kernel, by decide +kernel⟩
theorem t10 : compSs (compS h_are_links (defScope (top 24)) N_are_links 200) (defBody (top 24)) = some c_are_links := by kernel_rfl
theorem b10 {K : PySem.W.Frag} {f : Addr} {fd : FuncData} (F : FunD K "are_links" "are_links" (defArgs (top 24)) (defBody (top 24)) (defScope (top 24)) [] [] f fd) : Binds K fd ["value", "routers"] [] := F.bindsN fun _ _ _ _ _ _ us hl => match us, hl with | [_, _], _ => rfl
theorem s11 : FnScope N_Net____init__ ["self", "routers", "links"] (defScope (clsAt (top 25) 0)) := ⟨by kernel_rfl, by kernel_rfl, by kernel_rfl, by decide +kernel, by kernel_rfl, by decide +kernel, by decide +kernel⟩
theorem t11 : compSs (compS h_Net____init__ (defScope (clsAt (top 25) 0)) N_Net____init__ 200) (defBody (clsAt (top 25) 0)) = some c_Net____init__ := by kernel_rfl
theorem b11 {K : PySem.W.Frag} {f : Addr} {fd : FuncData} (F : FunD K "__init__" "Net.__init__" (defArgs (clsAt (top 25) 0)) (defBody (clsAt (top 25) 0)) (defScope (clsAt (top 25) 0)) [] [] f fd) : Binds K fd ["self", "routers", "links"] [] := F.bindsN fun _ _ _ _ _ _ us hl => match us, hl with | [_, _, _], _ => rfl
theorem s12 : FnScope N_Net__routers ["self"] (defScope (clsAt (top 25) 1)) := ⟨by kernel_rfl, by kernel_rfl, by kernel_rfl, by decide +kernel, by kernel_rfl, by decide +kernel, by decide +kernel⟩
theorem t12 : compSs (compS h_Net__routers (defScope (clsAt (top 25) 1)) N_Net__routers 200) (defBody (clsAt (top 25) 1)) = some c_Net__routers := by kernel_rfl
theorem b12 {K : PySem.W.Frag} {f : Addr} {fd : FuncData} (F : FunD K "routers" "Net.routers" (defArgs (clsAt (top 25) 1)) (defBody (clsAt (top 25) 1)) (defScope (clsAt (top 25) 1)) [] [] f fd) : Binds K fd ["self"] [] := F.bindsN fun _ _ _ _ _ _ us hl => match us, hl with | [_], _ => rfl
theorem s13 : FnScope N_Net__links ["self"] (defScope (clsAt (top 25) 2)) := ⟨by kernel_rfl, by kernel_rfl, by kernel_rfl, by decide +kernel, by kernel_rfl, by decide +kernel, by decide +kernel⟩
theorem t13 : compSs (compS h_Net__links (defScope (clsAt (top 25) 2)) N_Net__links 200) (defBody (clsAt (top 25) 2)) = some c_Net__links := by kernel_rfl
theorem b13 {K : PySem.W.Frag} {f : Addr} {fd : FuncData} (F : FunD K "links" "Net.links" (defArgs (clsAt (top 25) 2)) (defBody (clsAt (top 25) 2)) (defScope (clsAt (top 25) 2)) [] [] f fd) : Binds K fd ["self"] [] := F.bindsN fun _ _ _ _ _ _ us hl => match us, hl with | [_], _ => rfl
theorem s14 : FnScope N_check_routers ["net", "values"] (defScope (top 26)) := ⟨by kernel_rfl, by kernel_rfl, by kernel_rfl, by decide +kernel, by kernel_rfl, by decide +kernel, by decide +kernel⟩
theorem t14 : compSs (compS h_check_routers (defScope (top 26)) N_check_routers 200) (defBody (top 26)) = some c_check_routers := by kernel_rfl
theorem b14 {K : PySem.W.Frag} {f : Addr} {fd : FuncData} (F : FunD K "check_routers" "check_routers" (defArgs (top 26)) (defBody (top 26)) (defScope (top 26)) [] [] f fd) : Binds K fd ["net", "values"] [] := F.bindsN fun _ _ _ _ _ _ us hl => match us, hl with | [_, _], _ => rfl
theorem s15 : FnScope N_lengths_of ["net"] (defScope (top 28)) := ⟨by kernel_rfl, by kernel_rfl, by kernel_rfl, by decide +kernel, by kernel_rfl, by decide +kernel, by decide +kernel⟩
theorem t15 : compSs (compS h_lengths_of (defScope (top 28)) N_lengths_of 200) (defBody (top 28)) = some c_lengths_of := by kernel_rfl
theorem b15 {K : PySem.W.Frag} {f : Addr} {fd : FuncData} (F : FunD K "lengths_of" "lengths_of" (defArgs (top 28)) (defBody (top 28)) (defScope (top 28)) [] [] f fd) : Binds K fd ["net"] [] := F.bindsN fun _ _ _ _ _ _ us hl => match us, hl with | [_], _ => rfl
theorem s16 : FnScope N_distances_to ["routers", "lengths", "d"] (defScope (top 30)) := ⟨by kernel_rfl, by kernel_rfl, by kernel_rfl, by decide +kernel, by kernel_rfl, by decide +kernel, by decide +kernel⟩
theorem t16 : compSs (compS h_distances_to (defScope (top 30)) N_distances_to 200) (defBody (top 30)) = some c_distances_to := by kernel_rfl
theorem b16 {K : PySem.W.Frag} {f : Addr} {fd : FuncData} (F : FunD K "distances_to" "distances_to" (defArgs (top 30)) (defBody (top 30)) (defScope (top 30)) [] [] f fd) : Binds K fd ["routers", "lengths", "d"] [] := F.bindsN fun _ _ _ _ _ _ us hl => match us, hl with | [_, _, _], _ => rfl
theorem s17 : FnScope N_nexts_by ["routers", "lengths", "distances", "router"] (defScope (top 31)) := ⟨by kernel_rfl, by kernel_rfl, by kernel_rfl, by decide +kernel, by kernel_rfl, by decide +kernel, by decide +kernel⟩
theorem t17 : compSs (compS h_nexts_by (defScope (top 31)) N_nexts_by 200) (defBody (top 31)) = some c_nexts_by := by kernel_rfl
theorem b17 {K : PySem.W.Frag} {f : Addr} {fd : FuncData} (F : FunD K "nexts_by" "nexts_by" (defArgs (top 31)) (defBody (top 31)) (defScope (top 31)) [] [] f fd) : Binds K fd ["routers", "lengths", "distances", "router"] [] := F.bindsN fun _ _ _ _ _ _ us hl => match us, hl with | [_, _, _, _], _ => rfl
theorem s18 : FnScope N_tables_by ["routers", "lengths"] (defScope (top 32)) := ⟨by kernel_rfl, by kernel_rfl, by kernel_rfl, by decide +kernel, by kernel_rfl, by decide +kernel, by decide +kernel⟩
theorem t18 : compSs (compS h_tables_by (defScope (top 32)) N_tables_by 200) (defBody (top 32)) = some c_tables_by := by kernel_rfl
theorem b18 {K : PySem.W.Frag} {f : Addr} {fd : FuncData} (F : FunD K "tables_by" "tables_by" (defArgs (top 32)) (defBody (top 32)) (defScope (top 32)) [] [] f fd) : Binds K fd ["routers", "lengths"] [] := F.bindsN fun _ _ _ _ _ _ us hl => match us, hl with | [_, _], _ => rfl
theorem s19 : FnScope N_next_tables ["net"] (defScope (top 33)) := ⟨by kernel_rfl, by kernel_rfl, by kernel_rfl, by decide +kernel, by kernel_rfl, by decide +kernel, by decide +kernel⟩
theorem t19 : compSs (compS h_next_tables (defScope (top 33)) N_next_tables 200) (defBody (top 33)) = some c_next_tables := by kernel_rfl
theorem b19 {K : PySem.W.Frag} {f : Addr} {fd : FuncData} (F : FunD K "next_tables" "next_tables" (defArgs (top 33)) (defBody (top 33)) (defScope (top 33)) [] [] f fd) : Binds K fd ["net"] [] := F.bindsN fun _ _ _ _ _ _ us hl => match us, hl with | [_], _ => rfl
theorem s20 : FnScope N_distance ["net", "a", "d"] (defScope (top 34)) := ⟨by kernel_rfl, by kernel_rfl, by kernel_rfl, by decide +kernel, by kernel_rfl, by decide +kernel, by decide +kernel⟩
theorem t20 : compSs (compS h_distance (defScope (top 34)) N_distance 200) (defBody (top 34)) = some c_distance := by kernel_rfl
theorem b20 {K : PySem.W.Frag} {f : Addr} {fd : FuncData} (F : FunD K "distance" "distance" (defArgs (top 34)) (defBody (top 34)) (defScope (top 34)) [] [] f fd) : Binds K fd ["net", "a", "d"] [] := F.bindsN fun _ _ _ _ _ _ us hl => match us, hl with | [_, _, _], _ => rfl
theorem s21 : FnScope N_ways ["net", "a", "d"] (defScope (top 35)) := ⟨by kernel_rfl, by kernel_rfl, by kernel_rfl, by decide +kernel, by kernel_rfl, by decide +kernel, by decide +kernel⟩
theorem t21 : compSs (compS h_ways (defScope (top 35)) N_ways 200) (defBody (top 35)) = some c_ways := by kernel_rfl
theorem b21 {K : PySem.W.Frag} {f : Addr} {fd : FuncData} (F : FunD K "ways" "ways" (defArgs (top 35)) (defBody (top 35)) (defScope (top 35)) [] [] f fd) : Binds K fd ["net", "a", "d"] [] := F.bindsN fun _ _ _ _ _ _ us hl => match us, hl with | [_, _, _], _ => rfl
theorem s22 : FnScope N__law_pot ["_law_script", "_law_k"] (defScope (top 37)) := ⟨by kernel_rfl, by kernel_rfl, by kernel_rfl, by decide +kernel, by kernel_rfl, by decide +kernel, by decide +kernel⟩
theorem t22 : compSs (compS h__law_pot (defScope (top 37)) N__law_pot 200) (defBody (top 37)) = some c__law_pot := by kernel_rfl
theorem b22 {K : PySem.W.Frag} {f : Addr} {fd : FuncData} (F : FunD K "_law_pot" "_law_pot" (defArgs (top 37)) (defBody (top 37)) (defScope (top 37)) [] [] f fd) : Binds K fd ["_law_script", "_law_k"] [] := F.bindsN fun _ _ _ _ _ _ us hl => match us, hl with | [_, _], _ => rfl
theorem s23 : FnScope N__law_take ["_law_pot_here", "_law_upto"] (defScope (top 38)) := ⟨by kernel_rfl, by kernel_rfl, by kernel_rfl, by decide +kernel, by kernel_rfl, by decide +kernel, by decide +kernel⟩
theorem t23 : compSs (compS h__law_take (defScope (top 38)) N__law_take 200) (defBody (top 38)) = some c__law_take := by kernel_rfl
theorem b23 {K : PySem.W.Frag} {f : Addr} {fd : FuncData} (F : FunD K "_law_take" "_law_take" (defArgs (top 38)) (defBody (top 38)) (defScope (top 38)) [] [] f fd) : Binds K fd ["_law_pot_here", "_law_upto"] [] := F.bindsN fun _ _ _ _ _ _ us hl => match us, hl with | [_, _], _ => rfl
theorem s24 : FnScope N__law_pots ["_law_script", "_law_most"] (defScope (top 39)) := ⟨by kernel_rfl, by kernel_rfl, by kernel_rfl, by decide +kernel, by kernel_rfl, by decide +kernel, by decide +kernel⟩
theorem t24 : compSs (compS h__law_pots (defScope (top 39)) N__law_pots 200) (defBody (top 39)) = some c__law_pots := by kernel_rfl
theorem b24 {K : PySem.W.Frag} {f : Addr} {fd : FuncData} (F : FunD K "_law_pots" "_law_pots" (defArgs (top 39)) (defBody (top 39)) (defScope (top 39)) [] [] f fd) : Binds K fd ["_law_script", "_law_most"] [] := F.bindsN fun _ _ _ _ _ _ us hl => match us, hl with | [_, _], _ => rfl
theorem s25 : FnScope N__law_of ["_law_pot_here", "_law_some"] (defScope (top 40)) := ⟨by kernel_rfl, by kernel_rfl, by kernel_rfl, by decide +kernel, by kernel_rfl, by decide +kernel, by decide +kernel⟩
theorem t25 : compSs (compS h__law_of (defScope (top 40)) N__law_of 200) (defBody (top 40)) = some c__law_of := by kernel_rfl
theorem b25 {K : PySem.W.Frag} {f : Addr} {fd : FuncData} (F : FunD K "_law_of" "_law_of" (defArgs (top 40)) (defBody (top 40)) (defScope (top 40)) [] [] f fd) : Binds K fd ["_law_pot_here", "_law_some"] [] := F.bindsN fun _ _ _ _ _ _ us hl => match us, hl with | [_, _], _ => rfl
theorem s26 : FnScope N__law_turned ["_law_pot_here", "_law_some"] (defScope (top 41)) := ⟨by kernel_rfl, by kernel_rfl, by kernel_rfl, by decide +kernel, by kernel_rfl, by decide +kernel, by decide +kernel⟩
theorem t26 : compSs (compS h__law_turned (defScope (top 41)) N__law_turned 200) (defBody (top 41)) = some c__law_turned := by kernel_rfl
theorem b26 {K : PySem.W.Frag} {f : Addr} {fd : FuncData} (F : FunD K "_law_turned" "_law_turned" (defArgs (top 41)) (defBody (top 41)) (defScope (top 41)) [] [] f fd) : Binds K fd ["_law_pot_here", "_law_some"] [] := F.bindsN fun _ _ _ _ _ _ us hl => match us, hl with | [_, _], _ => rfl
theorem s27 : FnScope N__law_names ["_law_pot_here", "_law_many"] (defScope (top 42)) := ⟨by kernel_rfl, by kernel_rfl, by kernel_rfl, by decide +kernel, by kernel_rfl, by decide +kernel, by decide +kernel⟩
theorem t27 : compSs (compS h__law_names (defScope (top 42)) N__law_names 200) (defBody (top 42)) = some c__law_names := by kernel_rfl
theorem b27 {K : PySem.W.Frag} {f : Addr} {fd : FuncData} (F : FunD K "_law_names" "_law_names" (defArgs (top 42)) (defBody (top 42)) (defScope (top 42)) [] [] f fd) : Binds K fd ["_law_pot_here", "_law_many"] [] := F.bindsN fun _ _ _ _ _ _ us hl => match us, hl with | [_, _], _ => rfl
theorem s28 : FnScope N__law_far ["_law_pot_here"] (defScope (top 43)) := ⟨by kernel_rfl, by kernel_rfl, by kernel_rfl, by decide +kernel, by kernel_rfl, by decide +kernel, by decide +kernel⟩
theorem t28 : compSs (compS h__law_far (defScope (top 43)) N__law_far 200) (defBody (top 43)) = some c__law_far := by kernel_rfl
theorem b28 {K : PySem.W.Frag} {f : Addr} {fd : FuncData} (F : FunD K "_law_far" "_law_far" (defArgs (top 43)) (defBody (top 43)) (defScope (top 43)) [] [] f fd) : Binds K fd ["_law_pot_here"] [] := F.bindsN fun _ _ _ _ _ _ us hl => match us, hl with | [_], _ => rfl
theorem s29 : FnScope N__law_pairs ["_law_pot_here", "_law_routers", "_law_many"] (defScope (top 44)) := ⟨by kernel_rfl, by kernel_rfl, by kernel_rfl, by decide +kernel, by kernel_rfl, by decide +kernel, by decide +kernel⟩
theorem t29 : compSs (compS h__law_pairs (defScope (top 44)) N__law_pairs 200) (defBody (top 44)) = some c__law_pairs := by kernel_rfl
theorem b29 {K : PySem.W.Frag} {f : Addr} {fd : FuncData} (F : FunD K "_law_pairs" "_law_pairs" (defArgs (top 44)) (defBody (top 44)) (defScope (top 44)) [] [] f fd) : Binds K fd ["_law_pot_here", "_law_routers", "_law_many"] [] := F.bindsN fun _ _ _ _ _ _ us hl => match us, hl with | [_, _, _], _ => rfl
theorem s30 : FnScope N__law_world ["_law_pot_here", "_law_least", "_law_most", "_law_more"] (defScope (top 45)) := ⟨by kernel_rfl, by kernel_rfl, by kernel_rfl, by decide +kernel, by kernel_rfl, by decide +kernel, by decide +kernel⟩
theorem t30 : compSs (compS h__law_world (defScope (top 45)) N__law_world 200) (defBody (top 45)) = some c__law_world := by kernel_rfl
theorem b30 {K : PySem.W.Frag} {f : Addr} {fd : FuncData} (F : FunD K "_law_world" "_law_world" (defArgs (top 45)) (defBody (top 45)) (defScope (top 45)) [] [] f fd) : Binds K fd ["_law_pot_here", "_law_least", "_law_most", "_law_more"] [] := F.bindsN fun _ _ _ _ _ _ us hl => match us, hl with | [_, _, _, _], _ => rfl
theorem s31 : FnScope N__law_made ["_law_world_here"] (defScope (top 46)) := ⟨by kernel_rfl, by kernel_rfl, by kernel_rfl, by decide +kernel, by kernel_rfl, by decide +kernel, by decide +kernel⟩
theorem t31 : compSs (compS h__law_made (defScope (top 46)) N__law_made 200) (defBody (top 46)) = some c__law_made := by kernel_rfl
theorem b31 {K : PySem.W.Frag} {f : Addr} {fd : FuncData} (F : FunD K "_law_made" "_law_made" (defArgs (top 46)) (defBody (top 46)) (defScope (top 46)) [] [] f fd) : Binds K fd ["_law_world_here"] [] := F.bindsN fun _ _ _ _ _ _ us hl => match us, hl with | [_], _ => rfl
theorem s32 : FnScope N__law_lengths ["_law_links"] (defScope (top 47)) := ⟨by kernel_rfl, by kernel_rfl, by kernel_rfl, by decide +kernel, by kernel_rfl, by decide +kernel, by decide +kernel⟩
theorem t32 : compSs (compS h__law_lengths (defScope (top 47)) N__law_lengths 200) (defBody (top 47)) = some c__law_lengths := by kernel_rfl
theorem b32 {K : PySem.W.Frag} {f : Addr} {fd : FuncData} (F : FunD K "_law_lengths" "_law_lengths" (defArgs (top 47)) (defBody (top 47)) (defScope (top 47)) [] [] f fd) : Binds K fd ["_law_links"] [] := F.bindsN fun _ _ _ _ _ _ us hl => match us, hl with | [_], _ => rfl
theorem s33 : FnScope N__law_sums ["_law_lengths_here", "_law_routers", "_law_a", "_law_d"] (defScope (top 48)) := ⟨by kernel_rfl, by kernel_rfl, by kernel_rfl, by decide +kernel, by kernel_rfl, by decide +kernel, by decide +kernel⟩
theorem t33 : compSs (compS h__law_sums (defScope (top 48)) N__law_sums 200) (defBody (top 48)) = some c__law_sums := by kernel_rfl
theorem b33 {K : PySem.W.Frag} {f : Addr} {fd : FuncData} (F : FunD K "_law_sums" "_law_sums" (defArgs (top 48)) (defBody (top 48)) (defScope (top 48)) [] [] f fd) : Binds K fd ["_law_lengths_here", "_law_routers", "_law_a", "_law_d"] [] := F.bindsN fun _ _ _ _ _ _ us hl => match us, hl with | [_, _, _, _], _ => rfl
theorem s34 : FnScope N__law_fine ["_law_pot_here"] (defScope (top 49)) := ⟨by kernel_rfl, by kernel_rfl, by kernel_rfl, by decide +kernel, by kernel_rfl, by decide +kernel, by decide +kernel⟩
theorem t34 : compSs (compS h__law_fine (defScope (top 49)) N__law_fine 200) (defBody (top 49)) = some c__law_fine := by kernel_rfl
theorem b34 {K : PySem.W.Frag} {f : Addr} {fd : FuncData} (F : FunD K "_law_fine" "_law_fine" (defArgs (top 49)) (defBody (top 49)) (defScope (top 49)) [] [] f fd) : Binds K fd ["_law_pot_here"] [] := F.bindsN fun _ _ _ _ _ _ us hl => match us, hl with | [_], _ => rfl
theorem s35 : FnScope NL ["_law_script"] (defScope (top 50)) := ⟨by kernel_rfl, by kernel_rfl, by kernel_rfl, by decide +kernel, by kernel_rfl, by decide +kernel, by decide +kernel⟩
theorem t35 : compSs (compS hL (defScope (top 50)) NL 200) (defBody (top 50)) = some (cL 3) := by kernel_rfl
theorem b35 {K : PySem.W.Frag} {f : Addr} {fd : FuncData} (F : FunD K "law" "law" (defArgs (top 50)) (defBody (top 50)) (defScope (top 50)) [] [] f fd) : Binds K fd ["_law_script"] [] := F.bindsN fun _ _ _ _ _ _ us hl => match us, hl with | [_], _ => rfl
section
variable {P : Program} {w : World} {K : PySem.W.Frag} {h : Heap} {mg : Str → Option Value}
theorem st0 (X : K.In h) (G : h.Ns mainGlobals mg) (c : SaysP fa pr fn K) : St P w K mg B1 0 [] := by
  refine ⟨T0, fun base _ _ => ⟨fun x hx => free_ok X G (c.allf (List.mem_append_right _ (List.mem_map.mpr ⟨x, hx, rfl⟩))), fun x m e => (by cases e), fun x d e => ?_, fun cl f hf => ?_, fun _ _ _ e => (by cases e), fun _ _ _ e => (by cases e)⟩, ⟨rfl, rfl⟩, fun q hq => absurd hq List.not_mem_nil⟩
  · have e : C0 x = some d := e
    unfold C0 at e
    by_cases q0 : x = "LETTERS"
    · rw [if_pos q0] at e
      subst q0
      cases e
      obtain ⟨t, ht⟩ := str_ok X G (c.fact 0 (f := .str "LETTERS" alpha) rfl)
      exact ⟨rfl, _, ht, ⟨t, rfl⟩⟩
    rw [if_neg q0] at e
    by_cases q1 : x = "LONGEST_NAME"
    · rw [if_pos q1] at e
      subst q1
      cases e
      obtain ⟨t, ht⟩ := int_ok X G (c.fact 1 (f := .int "LONGEST_NAME" 8) rfl)
      exact ⟨rfl, _, ht, ⟨t, rfl⟩⟩
    rw [if_neg q1] at e
    by_cases q2 : x = "FEWEST_ROUTERS"
    · rw [if_pos q2] at e
      subst q2
      cases e
      obtain ⟨t, ht⟩ := int_ok X G (c.fact 2 (f := .int "FEWEST_ROUTERS" 2) rfl)
      exact ⟨rfl, _, ht, ⟨t, rfl⟩⟩
    rw [if_neg q2] at e
    by_cases q3 : x = "MOST_ROUTERS"
    · rw [if_pos q3] at e
      subst q3
      cases e
      obtain ⟨t, ht⟩ := int_ok X G (c.fact 3 (f := .int "MOST_ROUTERS" 8) rfl)
      exact ⟨rfl, _, ht, ⟨t, rfl⟩⟩
    rw [if_neg q3] at e
    by_cases q4 : x = "MOST_LINKS"
    · rw [if_pos q4] at e
      subst q4
      cases e
      obtain ⟨t, ht⟩ := int_ok X G (c.fact 4 (f := .int "MOST_LINKS" 16) rfl)
      exact ⟨rfl, _, ht, ⟨t, rfl⟩⟩
    rw [if_neg q4] at e
    by_cases q5 : x = "LINK"
    · rw [if_pos q5] at e
      subst q5
      cases e
      obtain ⟨t, ht⟩ := int_ok X G (c.fact 5 (f := .int "LINK" 4) rfl)
      exact ⟨rfl, _, ht, ⟨t, rfl⟩⟩
    rw [if_neg q5] at e
    cases e
  · have hf : f ∈ F0 cl := hf
    unfold F0 at hf
    by_cases q : cl = "Net"
    · rw [if_pos q] at hf
      subst q
      refine ⟨cls_ok (c.fact 6 (f := .cls "Net") rfl), ?_⟩
      rcases List.mem_cons.mp hf with e | e
      · subst e
        exact noat_ok (c.fact 7 (f := .noat "Net" "own_routers") rfl)
      · rcases List.mem_cons.mp e with e | e
        · subst e
          exact noat_ok (c.fact 8 (f := .noat "Net" "own_links") rfl)
        · cases e
    · rw [if_neg q] at hf
      cases hf
def L0 : PL := []
def L1 : PL := ("is_integer", P_isint) :: L0
def L2 : PL := ("is_from", P_isfrom) :: L1
def L3 : PL := ("is_name", P_isname) :: L2
def L4 : PL := ("is_one_of", P_isone) :: L3
def L5 : PL := ("is_tuple_of", P_tupof) :: L4
def L6 : PL := ("is_tuple_to", P_tupto) :: L5
def L7 : PL := ("are_ascending", P_asc) :: L6
def L8 : PL := ("is_ascending_of", P_ascof) :: L7
def L9 : PL := ("are_routers", P_arerouters) :: L8
def L10 : PL := ("is_link", P_islink) :: L9
def L11 : PL := ("are_links", P_arelinks) :: L10
def L12 : PL := ("Net", P_net) :: L11
def L13 : PL := ("check_routers", P_check) :: L12
def L14 : PL := ("lengths_of", P_lens) :: L13
def L15 : PL := ("distances_to", P_dist) :: L14
def L16 : PL := ("nexts_by", P_nby) :: L15
def L17 : PL := ("tables_by", P_tabs) :: L16
def L18 : PL := ("next_tables", P_ntab) :: L17
def L19 : PL := ("distance", P_distance) :: L18
def L20 : PL := ("ways", P_ways) :: L19
def L21 : PL := ("_law_pot", P_pot) :: L20
def L22 : PL := ("_law_take", P_take) :: L21
def L23 : PL := ("_law_pots", P_pots) :: L22
def L24 : PL := ("_law_of", P_of) :: L23
def L25 : PL := ("_law_turned", P_turned) :: L24
def L26 : PL := ("_law_names", P_names) :: L25
def L27 : PL := ("_law_far", P_far) :: L26
def L28 : PL := ("_law_pairs", P_pairs) :: L27
def L29 : PL := ("_law_world", P_world) :: L28
def L30 : PL := ("_law_made", P_made) :: L29
def L31 : PL := ("_law_lengths", P_llens) :: L30
def L32 : PL := ("_law_sums", P_sums) :: L31
def L33 : PL := ("_law_fine", P_fine) :: L32
theorem facts (X : K.In h) (G : h.Ns mainGlobals mg) {fA : Addr} (hfa : mg ("law" : Str) = some (.ref fA)) (c : SaysP fa pr fn K) :
    ∃ (fd : FuncData) (m : FS), (∀ (s : Shared) (v : Value), BindsTo s fd ⟨[v], []⟩ [("_law_script", v)]) ∧ (∀ ns : List Int, ∃ st', m [.scr ns] [] = some (.bl true, st')) ∧ ∀ base : Heap, K.In base → base.Ns mainGlobals mg → FnG P w K mg base CX0 72 fA fd ["_law_script"] (spOf K m) := by
  have S0 : St P w K mg B1 0 L0 := st0 X G c
  obtain ⟨f0, F0⟩ := c.def_ 0 (d := d0) rfl
  have S1 : St P w K mg B1 2 L1 := S0.def_ B1.add (glo_ok X G (c.fact 10 (f := .glo "is_integer") rfl)) F0 s0 (b0 F0) t0 (by decide +kernel) fun T hA hB => isint_ok 
  obtain ⟨f1, F1⟩ := c.def_ 1 (d := d1) rfl
  have S2 : St P w K mg B1 4 L2 := S1.def_ B1.add (glo_ok X G (c.fact 11 (f := .glo "is_from") rfl)) F1 s1 (b1 F1) t1 (by decide +kernel) fun T hA hB => isfrom_ok (hA.at 0)
  obtain ⟨f2, F2⟩ := c.def_ 2 (d := d2) rfl
  have S3 : St P w K mg B1 6 L3 := S2.def_ B1.add (glo_ok X G (c.fact 12 (f := .glo "is_name") rfl)) F2 s2 (b2 F2) t2 (by decide +kernel) fun T hA hB => isname_ok (by rw [hB.con]; exact C0_LONGEST_NAME) (by rw [hB.con]; exact C0_LETTERS)
  obtain ⟨f3, F3⟩ := c.def_ 3 (d := d3) rfl
  have S4 : St P w K mg B1 8 L4 := S3.def_ B1.add (glo_ok X G (c.fact 13 (f := .glo "is_one_of") rfl)) F3 s3 (b3 F3) t3 (by decide +kernel) fun T hA hB => isone_ok 
  obtain ⟨f4, F4⟩ := c.def_ 4 (d := d4) rfl
  have S5 : St P w K mg B1 10 L5 := S4.def_ B1.add (glo_ok X G (c.fact 14 (f := .glo "is_tuple_of") rfl)) F4 s4 (b4 F4) t4 (by decide +kernel) fun T hA hB => tupof_ok 
  obtain ⟨f5, F5⟩ := c.def_ 5 (d := d5) rfl
  have S6 : St P w K mg B1 12 L6 := S5.def_ B1.add (glo_ok X G (c.fact 15 (f := .glo "is_tuple_to") rfl)) F5 s5 (b5 F5) t5 (by decide +kernel) fun T hA hB => tupto_ok 
  obtain ⟨f6, F6⟩ := c.def_ 6 (d := d6) rfl
  have S7 : St P w K mg B1 14 L7 := S6.def_ B1.add (glo_ok X G (c.fact 16 (f := .glo "are_ascending") rfl)) F6 s6 (b6 F6) t6 (by decide +kernel) fun T hA hB => asc_ok 
  obtain ⟨f7, F7⟩ := c.def_ 7 (d := d7) rfl
  have S8 : St P w K mg B1 16 L8 := S7.def_ B1.add (glo_ok X G (c.fact 17 (f := .glo "is_ascending_of") rfl)) F7 s7 (b7 F7) t7 (by decide +kernel) fun T hA hB => ascof_ok (hA.at 3) (hA.at 0)
  obtain ⟨f8, F8⟩ := c.def_ 8 (d := d8) rfl
  have S9 : St P w K mg B1 18 L9 := S8.def_ B1.add (glo_ok X G (c.fact 18 (f := .glo "are_routers") rfl)) F8 s8 (b8 F8) t8 (by decide +kernel) fun T hA hB => arerouters_ok (hA.at 2) (hA.at 5) (hA.at 1) (by rw [hB.con]; exact C0_MOST_ROUTERS) (by rw [hB.con]; exact C0_FEWEST_ROUTERS)
  obtain ⟨f9, F9⟩ := c.def_ 9 (d := d9) rfl
  have S10 : St P w K mg B1 20 L10 := S9.def_ B1.add (glo_ok X G (c.fact 19 (f := .glo "is_link") rfl)) F9 s9 (b9 F9) t9 (by decide +kernel) fun T hA hB => islink_ok (hA.at 4) (hA.at 1) (hA.at 7) (by rw [hB.con]; exact C0_LINK)
  obtain ⟨f10, F10⟩ := c.def_ 10 (d := d10) rfl
  have S11 : St P w K mg B1 22 L11 := S10.def_ B1.add (glo_ok X G (c.fact 20 (f := .glo "are_links") rfl)) F10 s10 (b10 F10) t10 (by decide +kernel) fun T hA hB => arelinks_ok (hA.at 4) (hA.at 0) (hA.at 3) (by rw [hB.con]; exact C0_MOST_LINKS)
  obtain ⟨f11, F11⟩ := c.def_ 11 (d := d11) rfl
  have S12 : St P w K mg B1 24 L12 := S11.cls_ B1.add (glo_ok X G (c.fact 21 (f := .glo "Net") rfl)) (mkr_ok (c.fact 9 (f := .mkr "Net") rfl)) F11 s11 (b11 F11) t11 (by decide +kernel) fun T hA hB => net_ok (hA.at 2) (hA.at 0) (by rw [hB.fld, F0_net]; exact List.mem_cons_self ..) (by rw [hB.fld, F0_net]; exact List.mem_cons_of_mem _ (List.mem_cons_self ..))
  obtain ⟨f12, F12⟩ := c.def_ 12 (d := d12) rfl
  have S13 : St P w K mg B2 26 L12 := S12.prop_ (cls_ok (c.fact 6 (f := .cls "Net") rfl)) (c.prop 0 rfl) F12 s12 (b12 F12) t12 fun T hA hB => ⟨hB.con, hB.fld, HasP.new (getR_ok (by rw [hB.fld]; exact F0_net))⟩
  obtain ⟨f13, F13⟩ := c.def_ 13 (d := d13) rfl
  have S14 : St P w K mg B3 28 L12 := S13.prop_ (cls_ok (c.fact 6 (f := .cls "Net") rfl)) (c.prop 1 rfl) F13 s13 (b13 F13) t13 fun T hA hB => ⟨hB.con, ⟨by show T.fld "Net" = _; rw [hB.fld]; exact F0_net, hB.r.addP (by decide +kernel), HasP.new (getL_ok (by rw [hB.fld]; exact F0_net))⟩⟩
  obtain ⟨f14, F14⟩ := c.def_ 14 (d := d14) rfl
  have S15 : St P w K mg B3 30 L13 := S14.def_ B3.add (glo_ok X G (c.fact 22 (f := .glo "check_routers") rfl)) F14 s14 (b14 F14) t14 (by decide +kernel) fun T hA hB => check_ok hB.net (hA.at 8)
  obtain ⟨f15, F15⟩ := c.def_ 15 (d := d15) rfl
  have S16 : St P w K mg B3 32 L14 := S15.def_ B3.add (glo_ok X G (c.fact 23 (f := .glo "lengths_of") rfl)) F15 s15 (b15 F15) t15 (by decide +kernel) fun T hA hB => lens_ok hB.net
  obtain ⟨f16, F16⟩ := c.def_ 16 (d := d16) rfl
  have S17 : St P w K mg B3 34 L15 := S16.def_ B3.add (glo_ok X G (c.fact 24 (f := .glo "distances_to") rfl)) F16 s16 (b16 F16) t16 (by decide +kernel) fun T hA hB => dist_ok 
  obtain ⟨f17, F17⟩ := c.def_ 17 (d := d17) rfl
  have S18 : St P w K mg B3 36 L16 := S17.def_ B3.add (glo_ok X G (c.fact 25 (f := .glo "nexts_by") rfl)) F17 s17 (b17 F17) t17 (by decide +kernel) fun T hA hB => nby_ok 
  obtain ⟨f18, F18⟩ := c.def_ 18 (d := d18) rfl
  have S19 : St P w K mg B3 38 L17 := S18.def_ B3.add (glo_ok X G (c.fact 26 (f := .glo "tables_by") rfl)) F18 s18 (b18 F18) t18 (by decide +kernel) fun T hA hB => tabs_ok (hA.at 1) (hA.at 0)
  obtain ⟨f19, F19⟩ := c.def_ 19 (d := d19) rfl
  have S20 : St P w K mg B3 40 L18 := S19.def_ B3.add (glo_ok X G (c.fact 27 (f := .glo "next_tables") rfl)) F19 s19 (b19 F19) t19 (by decide +kernel) fun T hA hB => ntab_ok hB.net (hA.at 0) (hA.at 3)
  obtain ⟨f20, F20⟩ := c.def_ 20 (d := d20) rfl
  have S21 : St P w K mg B3 42 L19 := S20.def_ B3.add (glo_ok X G (c.fact 28 (f := .glo "distance") rfl)) F20 s20 (b20 F20) t20 (by decide +kernel) fun T hA hB => distance_ok hB.net (hA.at 5) (hA.at 3) (hA.at 4)
  obtain ⟨f21, F21⟩ := c.def_ 21 (d := d21) rfl
  have S22 : St P w K mg B3 44 L20 := S21.def_ B3.add (glo_ok X G (c.fact 29 (f := .glo "ways") rfl)) F21 s21 (b21 F21) t21 (by decide +kernel) fun T hA hB => ways_ok hB.net (hA.at 6) (hA.at 1) (hA.at 4) (hA.at 5)
  obtain ⟨f22, F22⟩ := c.def_ 22 (d := d22) rfl
  have S23 : St P w K mg B3 46 L21 := S22.def_ B3.add (glo_ok X G (c.fact 30 (f := .glo "_law_pot") rfl)) F22 s22 (b22 F22) t22 (by decide +kernel) fun T hA hB => pot_ok 
  obtain ⟨f23, F23⟩ := c.def_ 23 (d := d23) rfl
  have S24 : St P w K mg B3 48 L22 := S23.def_ B3.add (glo_ok X G (c.fact 31 (f := .glo "_law_take") rfl)) F23 s23 (b23 F23) t23 (by decide +kernel) fun T hA hB => take_ok 
  obtain ⟨f24, F24⟩ := c.def_ 24 (d := d24) rfl
  have S25 : St P w K mg B3 50 L23 := S24.def_ B3.add (glo_ok X G (c.fact 32 (f := .glo "_law_pots") rfl)) F24 s24 (b24 F24) t24 (by decide +kernel) fun T hA hB => pots_ok (hA.at 1)
  obtain ⟨f25, F25⟩ := c.def_ 25 (d := d25) rfl
  have S26 : St P w K mg B3 52 L24 := S25.def_ B3.add (glo_ok X G (c.fact 33 (f := .glo "_law_of") rfl)) F25 s25 (b25 F25) t25 (by decide +kernel) fun T hA hB => of_ok (hA.at 1)
  obtain ⟨f26, F26⟩ := c.def_ 26 (d := d26) rfl
  have S27 : St P w K mg B3 54 L25 := S26.def_ B3.add (glo_ok X G (c.fact 34 (f := .glo "_law_turned") rfl)) F26 s26 (b26 F26) t26 (by decide +kernel) fun T hA hB => turned_ok (hA.at 2)
  obtain ⟨f27, F27⟩ := c.def_ 27 (d := d27) rfl
  have S28 : St P w K mg B3 56 L26 := S27.def_ B3.add (glo_ok X G (c.fact 35 (f := .glo "_law_names") rfl)) F27 s27 (b27 F27) t27 (by decide +kernel) fun T hA hB => names_ok (hA.at 3) (hA.at 1)
  obtain ⟨f28, F28⟩ := c.def_ 28 (d := d28) rfl
  have S29 : St P w K mg B3 58 L27 := S28.def_ B3.add (glo_ok X G (c.fact 36 (f := .glo "_law_far") rfl)) F28 s28 (b28 F28) t28 (by decide +kernel) fun T hA hB => far_ok (hA.at 4) (hA.at 2)
  obtain ⟨f29, F29⟩ := c.def_ 29 (d := d29) rfl
  have S30 : St P w K mg B3 60 L28 := S29.def_ B3.add (glo_ok X G (c.fact 37 (f := .glo "_law_pairs") rfl)) F29 s29 (b29 F29) t29 (by decide +kernel) fun T hA hB => pairs_ok (hA.at 5) (hA.at 2)
  obtain ⟨f30, F30⟩ := c.def_ 30 (d := d30) rfl
  have S31 : St P w K mg B3 62 L29 := S30.def_ B3.add (glo_ok X G (c.fact 38 (f := .glo "_law_world") rfl)) F30 s30 (b30 F30) t30 (by decide +kernel) fun T hA hB => world_ok (hA.at 6) (hA.at 2) (hA.at 0) (hA.at 1)
  obtain ⟨f31, F31⟩ := c.def_ 31 (d := d31) rfl
  have S32 : St P w K mg B3 64 L30 := S31.def_ B3.add (glo_ok X G (c.fact 39 (f := .glo "_law_made") rfl)) F31 s31 (b31 F31) t31 (by decide +kernel) fun T hA hB => made_ok (hA.at 17)
  obtain ⟨f32, F32⟩ := c.def_ 32 (d := d32) rfl
  have S33 : St P w K mg B3 66 L31 := S32.def_ B3.add (glo_ok X G (c.fact 40 (f := .glo "_law_lengths") rfl)) F32 s32 (b32 F32) t32 (by decide +kernel) fun T hA hB => llens_ok 
  obtain ⟨f33, F33⟩ := c.def_ 33 (d := d33) rfl
  have S34 : St P w K mg B3 68 L32 := S33.def_ B3.add (glo_ok X G (c.fact 41 (f := .glo "_law_sums") rfl)) F33 s33 (b33 F33) t33 (by decide +kernel) fun T hA hB => sums_ok 
  obtain ⟨f34, F34⟩ := c.def_ 34 (d := d34) rfl
  have S35 : St P w K mg B3 70 L33 := S34.def_ B3.add (glo_ok X G (c.fact 42 (f := .glo "_law_fine") rfl)) F34 s34 (b34 F34) t34 (by decide +kernel) fun T hA hB => fine_ok (hA.at 3) (hA.at 2) (hA.at 1) (hA.at 0) (hA.at 13) (hA.at 12)
  obtain ⟨f35, F35⟩ := c.def_ 35 (d := d35) rfl
  have e := hfa.symm.trans (glo_ok X G (c.fact 43 (f := .glo "law") rfl))
  cases e
  have bb := FunD.bindsA (ps := ["_law_script"]) F35 fun _ _ _ _ _ _ us hl => match us, hl with | [_], _ => rfl
  obtain ⟨T, h1, hB, hA⟩ := S35
  exact ⟨f35, den T NL 1 (cL 3), fun s v => bb s [v] rfl, fun ns => law_ok (n := 3) (by decide) (by decide) (hA.at 10) (hA.at 0) ns, fun base X' G' => fn_den (h1 base X' G') F35 s35 t35⟩
end
end K04
end Q
open PySem PySem.W PySem.Calls PyProof.Rows
theorem PySem.Challenge.cw_quietturns_k04_distances_by_all_ways_holds : PySem.Challenge.rw_quietturns_k04_distances_by_all_ways.Holds := by
  w_on; o_law
  refine HandSHeadRun.head_any (r := OpenLaw.row PySem.Challenge.rw_quietturns_k04_distances_by_all_ways) (q := view (OpenLaw.row PySem.Challenge.rw_quietturns_k04_distances_by_all_ways).prog [50]) (H := Q.K04.hk) (ob := Q.K04.ob) (M := 3000) (loose := Q.K04.loose) (d := HandSHeadRun.topDef (OpenLaw.row PySem.Challenge.rw_quietturns_k04_distances_by_all_ways).prog 50) (kwd := []) Q.K04.ob_eq
    (by kernel_rfl) (fun s => by kernel_rfl) Q.K04.run (by kernel_rfl) (by kernel_rfl) (by kernel_rfl) (by rfl) (by first | assumption | decide +kernel) (by decide +kernel) ⟨rfl, rfl, rfl, rfl, rfl, by decide +kernel⟩ ?hw ?hc
  case hw => w_witness2
  case hc =>
    refine Q.walkG (l := PySem.Challenge.rw_quietturns_k04_distances_by_all_ways) (n := 63) (k := 72) (x := "_law_script") rfl (by decide) (by kernel_rfl) ⟨rfl, by decide, by decide⟩ ?F
    intro w mg fa h Y G hmg0
    obtain ⟨K, KX, c⟩ := Y
    have hmg : mg ("law" : PySem.Str) = some (.ref fa) := by
      have e : (HandSHeadRun.topDef (OpenLaw.row PySem.Challenge.rw_quietturns_k04_distances_by_all_ways).prog 50).name = ("law" : PySem.Str) := by kernel_rfl
      rw [← e]
      exact hmg0
    obtain ⟨fd, m, hb, hm, hF⟩ := Q.K04.facts (P := (PySem.Challenge.rw_quietturns_k04_distances_by_all_ways).prog) (w := w) KX G hmg c
    exact ⟨K, fd, Q.spOf K m, KX, hb, fun H a ns hl hO hS => (by obtain ⟨st', e⟩ := hm ns; exact Q.law_end hO hS e), hF⟩

